import PyProof.Rows.All
import Wide.All
import OpenK.AllK
import Wide.FinOn
import HandS.ForMost
import HandS.IsInst
import HandS.Flow
import HandS.Deep
import HandS.TupAny
import HandS.DictComp
import HandS.Conv
import HandS.Style
import HandS.Zip
import HandS.CallSlots
import HandS.ExcField
import HandS.ExcIs
import KE.GoesMore
import HandS.TryOnly
import HandS.Small
import KE.KExcIs
import HandS.ExcInit
import HandS.WordsExc
import PySem.Challenge.RW_shapelang_k18_chains
set_option Elab.async false
set_option linter.all false
set_option maxRecDepth 100000
set_option maxHeartbeats 4000000
/-! DW: a layer over HandS in which a def is read over plain data, the heap put away. -/
namespace DW
open PySem L2

/-! ### the wish of a piece of syntax, whatever its derivation -/
def WE (X : Cx) (e : Expr) : TE := fun σ H Q => ∀ pins s, Inv X pins σ H s → wpAny (model X.prog X.w) X.A (eval e X.env) (EP X pins σ Q) X.xe s
def WT (X : Cx) (e : Expr) : TT := fun σ H Q => ∀ pins s, Inv X pins σ H s → wpAny (model X.prog X.w) X.A (isTrue e X.env (eval e X.env)) (TP X pins σ Q) X.xe s
def WA (X : Cx) (es : List Expr) : TA := fun σ H Q => ∀ pos pins s, Inv X pins σ H s → wpAny (model X.prog X.w) X.A (spliced (backTo pos (starEach es X.env))) (AP X pins σ Q) X.xe s
def WS (X : Cx) (st : Stmt) : TS := fun D σ H => ∀ pins s, Inv X pins σ H s → wpAny (model X.prog X.w) X.A (exec st X.env) (SP X pins D) X.xe s
def WB (X : Cx) (st : List Stmt) : TS := fun D σ H => ∀ pins s, Inv X pins σ H s → wpAny (model X.prog X.w) X.A (execs st X.env) (SP X pins D) X.xe s
section
variable {X : Cx} {e : Expr} {es : List Expr} {st : Stmt} {sts : List Stmt} {σ : St} {H : Hp}
theorem WE.pe : PE X e (WE X e) := ⟨fun pins s _ _ _ I h => h pins s I⟩
theorem WT.pt : PT X e (WT X e) := ⟨fun pins s _ _ _ I h => h pins s I⟩
theorem WA.pa : PA X es (WA X es) := ⟨fun pos pins s _ _ _ I h => h pos pins s I⟩
theorem WS.ps : PS X st (WS X st) := ⟨fun pins s _ _ _ I h => h pins s I⟩
theorem WB.pss : PSs X sts (WB X sts) := ⟨fun pins s _ _ _ I h => h pins s I⟩
theorem WE.of {t : TE} {Q : VK} (h : PE X e t) (q : t σ H Q) : WE X e σ H Q := fun pins s I => h.run pins s σ H Q I q
theorem WT.of {t : TT} {Q : Bool → Hp → Prop} (h : PT X e t) (q : t σ H Q) : WT X e σ H Q := fun pins s I => h.run pins s σ H Q I q
theorem WA.of {t : TA} {Q : List V → Hp → Prop} (h : PA X es t) (q : t σ H Q) : WA X es σ H Q := fun pos pins s I => h.run pos pins s σ H Q I q
theorem WS.of {t : TS} {D : Ends} (h : PS X st t) (q : t D σ H) : WS X st D σ H := fun pins s I => h.run pins s σ H D I q
theorem WB.of {t : TS} {D : Ends} (h : PSs X sts t) (q : t D σ H) : WB X sts D σ H := fun pins s I => h.run pins s σ H D I q
theorem WE.thn {Q Q' : VK} (h : WE X e σ H Q) (k : ∀ pins s v u H', Inv X pins σ H' s → RelV v u → Q v H' → ∃ v' H'', Inv X pins σ H'' s ∧ RelV v' u ∧ Q' v' H'') : WE X e σ H Q' := fun pins s I =>
  L2.thn (h pins s I) fun u s' ⟨v, H', I', r, q⟩ => k pins s' v u H' I' r q
theorem WE.mono {Q Q' : VK} (h : WE X e σ H Q) (k : ∀ v H', Q v H' → Q' v H') : WE X e σ H Q' := h.thn fun _ _ v _ H' I r q => ⟨v, H', I, r, k v H' q⟩
end

/-! ### what never changes: tuples, and what is frozen -/
structure KT (H H' : Hp) : Prop where
  t : ∀ b xs, H b = some (.tup xs) → H' b = some (.tup xs)
  f : ∀ b o u, H b = some (.frz o u) → H' b = some (.frz o u)
theorem KT.refl (H : Hp) : KT H H := ⟨fun _ _ h => h, fun _ _ _ h => h⟩
theorem KT.trans {H H1 H2 : Hp} (a : KT H H1) (b : KT H1 H2) : KT H H2 := ⟨fun x y h => b.t x y (a.t x y h), fun x y z h => b.f x y z (a.f x y z h)⟩
/-- all that is tracked stays -/
def Ex (H H' : Hp) : Prop := ∀ a o, H a = some o → H' a = some o
theorem Ex.refl (H : Hp) : Ex H H := fun _ _ h => h
theorem Ex.trans {H H1 H2 : Hp} (a : Ex H H1) (b : Ex H1 H2) : Ex H H2 := fun x o h => b x o (a x o h)
theorem Ex.new {H : Hp} {p : Addr} {o : HO} (h : H p = none) : Ex H (upd H p o) := fun a u e => by
  rw [upd_ne (ne_of_none e h)]
  exact e
theorem Ex.kt {H H' : Hp} (e : Ex H H') : KT H H' := ⟨fun b xs h => e b _ h, fun b o u h => e b _ h⟩
theorem Ex.fresh {H H' : Hp} (e : Ex H H') {p : Addr} (h : H' p = none) : H p = none := by
  cases h1 : H p with
  | none => rfl
  | some o =>
    rw [e p o h1] at h
    cases h
theorem KT.lst {H : Hp} {l : Addr} {xs ys : List V} (h : H l = some (.lst xs)) : KT H (upd H l (.lst ys)) := ⟨fun b zs e => by
  rw [upd_ne (ne_of e h (by intro z; cases z))]
  exact e, fun b o u e => by
  rw [upd_ne (ne_of e h (by intro z; cases z))]
  exact e⟩

theorem rd_kt_t {H H' : Hp} {a : Addr} {xs : List V} (k : KT H H') (h : Rd H a (.tup xs)) : Rd H' a (.tup xs) := by
  rcases h with h | ⟨o, h⟩
  · exact .inl (k.t a xs h)
  · exact .inr ⟨o, k.f a o _ h⟩
theorem sqt_kt {K : PySem.W.Frag} {H H' : Hp} {a : Addr} {xs : List V} (k : KT H H') (h : SqT K H a xs) : SqT K H' a xs := by
  rcases h with h | h
  · exact .inl (rd_kt_t k h)
  · exact .inr h
/-- a list that stays: frozen -/
def SqF (K : PySem.W.Frag) (H : Hp) (a : Addr) (xs : List V) : Prop := ∃ o, H a = some (.frz o (.lst xs))
theorem SqF.l {K : PySem.W.Frag} {H : Hp} {a : Addr} {xs : List V} (h : SqF K H a xs) : SqL K H a xs := .inl (.inr h)
theorem SqF.kt {K : PySem.W.Frag} {H H' : Hp} {a : Addr} {xs : List V} (k : KT H H') (h : SqF K H a xs) : SqF K H' a xs := by
  obtain ⟨o, h⟩ := h
  exact ⟨o, k.f a o _ h⟩

/-- the script: a list that stays, frozen or of the module -/
def SqS (K : PySem.W.Frag) (H : Hp) (a : Addr) (xs : List V) : Prop :=
  SqF K H a xs ∨ ∃ (o : Obj) (its : Array Value) (n : Nat), K.lookup a = some o ∧ o.cls = .type "list" ∧ o.dict = none ∧ o.data = .seq its n ∧ its.size ≤ sizeLine ∧ Vals xs its.toList
theorem SqS.l {K : PySem.W.Frag} {H : Hp} {a : Addr} {xs : List V} (h : SqS K H a xs) : SqL K H a xs := by
  rcases h with h | h
  · exact h.l
  · exact .inr h
theorem SqS.kt {K : PySem.W.Frag} {H H' : Hp} {a : Addr} {xs : List V} (k : KT H H') (h : SqS K H a xs) : SqS K H' a xs := by
  rcases h with h | h
  · exact .inl (h.kt k)
  · exact .inr h

/-! ### data that stays, at a value -/
mutual
inductive Rp (K : PySem.W.Frag) (H : Hp) : V → PyData → Prop
  | non : Rp K H .non .none
  | bl (b : Bool) : Rp K H (.bl b) (.bool b)
  | int (i : Int) : Rp K H (.int i) (.int i)
  | str (x : Str) : Rp K H (.str x) (.str x)
  | tup {a : Addr} {xs : List V} {ds : List PyData} : SqT K H a xs → RpL K H xs ds → Rp K H (.ref a) (.tuple ds)
  | lst {a : Addr} {xs : List V} {ds : List PyData} : SqF K H a xs → RpL K H xs ds → Rp K H (.ref a) (.list ds)
  | dic {a : Addr} {o : Obj} : H a = some (.frz o (.dK [])) → Rp K H (.ref a) (.dict [])
inductive RpL (K : PySem.W.Frag) (H : Hp) : List V → List PyData → Prop
  | nil : RpL K H [] []
  | cons {v : V} {vs : List V} {d : PyData} {ds : List PyData} : Rp K H v d → RpL K H vs ds → RpL K H (v :: vs) (d :: ds)
end
section
variable {K : PySem.W.Frag} {H H' : Hp}
mutual
theorem Rp.kt (k : KT H H') : ∀ {v : V} {d : PyData}, Rp K H v d → Rp K H' v d
  | _, _, .non => .non
  | _, _, .bl b => .bl b
  | _, _, .int i => .int i
  | _, _, .str x => .str x
  | _, _, .tup h q => .tup (sqt_kt k h) (RpL.kt k q)
  | _, _, .lst h q => .lst (h.kt k) (RpL.kt k q)
  | _, _, .dic h => .dic (k.f _ _ _ h)
theorem RpL.kt (k : KT H H') : ∀ {vs : List V} {ds : List PyData}, RpL K H vs ds → RpL K H' vs ds
  | _, _, .nil => .nil
  | _, _, .cons h q => .cons (Rp.kt k h) (RpL.kt k q)
end
theorem RpL.length : ∀ {vs : List V} {ds : List PyData}, RpL K H vs ds → vs.length = ds.length
  | _, _, .nil => rfl
  | _, _, .cons _ q => by rw [List.length_cons, List.length_cons, RpL.length q]
theorem RpL.get : ∀ {vs : List V} {ds : List PyData} {i : Nat} {v : V}, RpL K H vs ds → vs[i]? = some v → ∃ d, ds[i]? = some d ∧ Rp K H v d
  | _, _, i, _, .nil, e => by simp at e
  | _, _, 0, _, .cons (d := d) h _, e => by
    simp at e
    subst e
    exact ⟨d, rfl, h⟩
  | _, _, i + 1, v, .cons _ q, e => by
    obtain ⟨d, h1, h2⟩ := RpL.get (i := i) (v := v) q (by simpa using e)
    exact ⟨d, by simpa using h1, h2⟩
theorem RpL.getD : ∀ {vs : List V} {ds : List PyData} {i : Nat} {d : PyData}, RpL K H vs ds → ds[i]? = some d → ∃ v, vs[i]? = some v ∧ Rp K H v d
  | _, _, i, _, .nil, e => by simp at e
  | _, _, 0, _, .cons (v := v) h _, e => by
    simp at e
    subst e
    exact ⟨v, rfl, h⟩
  | _, _, i + 1, d, .cons _ q, e => by
    obtain ⟨v, h1, h2⟩ := RpL.getD (i := i) (d := d) q (by simpa using e)
    exact ⟨v, by simpa using h1, h2⟩
theorem RpL.append : ∀ {vs ws : List V} {ds es : List PyData}, RpL K H vs ds → RpL K H ws es → RpL K H (vs ++ ws) (ds ++ es)
  | _, _, _, _, .nil, s => s
  | _, _, _, _, .cons h q, s => .cons h (RpL.append q s)
theorem RpL.take : ∀ {vs : List V} {ds : List PyData} (n : Nat), RpL K H vs ds → RpL K H (vs.take n) (ds.take n)
  | _, _, 0, _ => by rw [List.take_zero, List.take_zero]; exact .nil
  | _, _, _ + 1, .nil => by rw [List.take_nil, List.take_nil]; exact .nil
  | _, _, n + 1, .cons h q => by rw [List.take_succ_cons, List.take_succ_cons]; exact .cons h (RpL.take n q)
theorem RpL.drop : ∀ {vs : List V} {ds : List PyData} (n : Nat), RpL K H vs ds → RpL K H (vs.drop n) (ds.drop n)
  | _, _, 0, h => by rw [List.drop_zero, List.drop_zero]; exact h
  | _, _, _ + 1, .nil => by rw [List.drop_nil, List.drop_nil]; exact .nil
  | _, _, n + 1, .cons h q => by rw [List.drop_succ_cons, List.drop_succ_cons]; exact RpL.drop n q
theorem RpL.set {v : V} {d : PyData} (r : Rp K H v d) : ∀ {vs : List V} {ds : List PyData} (i : Nat), RpL K H vs ds → RpL K H (vs.set i v) (ds.set i d)
  | _, _, _, .nil => .nil
  | _, _, 0, .cons _ t => .cons r t
  | _, _, i + 1, .cons q t => .cons q (RpL.set r i t)
theorem RpL.reverse : ∀ {vs : List V} {ds : List PyData}, RpL K H vs ds → RpL K H vs.reverse ds.reverse
  | _, _, .nil => .nil
  | _, _, .cons h q => by rw [List.reverse_cons, List.reverse_cons]; exact (RpL.reverse q).append (.cons h .nil)
theorem RpL.snoc {vs : List V} {ds : List PyData} {v : V} {d : PyData} (h : RpL K H vs ds) (r : Rp K H v d) : RpL K H (vs ++ [v]) (ds ++ [d]) := h.append (.cons r .nil)
theorem RpL.dropLast {vs : List V} {ds : List PyData} (h : RpL K H vs ds) : RpL K H vs.dropLast ds.dropLast := by
  rw [List.dropLast_eq_take, List.dropLast_eq_take, h.length]
  exact h.take _
theorem RpL.ints : ∀ {vs : List V} {ns : List Int}, RpL K H vs (ns.map .int) → vs = ns.map V.int
  | _, [], h => by cases h; rfl
  | _, n :: ns, h => by
    cases h with
    | cons h q =>
      cases h
      rw [RpL.ints q]
      rfl
theorem RpL.ofInts : ∀ (ns : List Int), RpL K H (ns.map V.int) (ns.map .int)
  | [] => .nil
  | n :: ns => .cons (.int n) (RpL.ofInts ns)
end

/-! ### freezing: a tracked list is known to be never changed again -/
section
variable {X : Cx} {pins : List (Addr × Obj)} {σ : St} {H : Hp} {s : Shared}
theorem freeze_un {fs ex : List Addr} {H0 H : Hp} {h0 h : Heap} {p : Addr} {o : Obj} {u v : HO} (un : Un fs ex H0 H h0 h) (hp : H p = some u) (nt : ∀ xs, u ≠ .tup xs) (nf : ∀ o w, u ≠ .frz o w) (nb : ∀ ps, u ≠ .tbl ps) : Un fs ex H0 (upd H p v) h0 h where
  keep := un.keep
  slot := un.slot
  free := fun b ob q n hx => by
    have h1 := un.free b ob q n hx
    rw [upd_ne (fun e => by rw [e, hp] at h1; cases h1)]
    exact h1
  there := un.there
  tups := fun b xs q => by
    have h1 := un.tups b xs q
    rw [upd_ne (fun e => by rw [e, hp] at h1; exact nt xs (Option.some.inj h1))]
    exact h1
  frzs := fun b ob w q => by
    have h1 := un.frzs b ob w q
    rw [upd_ne (fun e => by rw [e, hp] at h1; exact nf ob w (Option.some.inj h1))]
    exact h1
  tbls := fun b ps q => by
    obtain ⟨m, h1⟩ := un.tbls b ps q
    exact ⟨m, by
      rw [upd_ne (fun e => by rw [e, hp] at h1; exact nb _ (Option.some.inj h1))]
      exact h1⟩
theorem freeze_hok {P : Program} {w : World} {h : Heap} {p : Addr} {u v : HO} (ok : HOk P w H h) (hp : H p = some u) (nt : ∀ xs, u ≠ .tup xs) (no : ∀ a, u ≠ .own a) (hv : ObjOk P w H h p v) : HOk P w (upd H p v) h := fun b o q => by
  have ho : ∀ a b, H b = some (.own a) → upd H p v b = some (.own a) := fun a b e => by
    rw [upd_ne (fun z => by rw [z, hp] at e; exact no a (Option.some.inj e))]
    exact e
  have ht : ∀ b xs, H b = some (.tup xs) → upd H p v b = some (.tup xs) := fun b xs e => by
    rw [upd_ne (fun z => by rw [z, hp] at e; exact nt xs (Option.some.inj e))]
    exact e
  by_cases hb : b = p
  · subst hb
    rw [upd_same] at q
    cases q
    exact hv.stay (fun _ _ _ z => z) (ho b) ht
  · rw [upd_ne hb] at q
    exact (ok b o q).stay (fun _ _ _ z => z) (ho b) ht
theorem Inv.heap_by {H' : Hp} (I : Inv X pins σ H s) (un : Un X.fs X.ex X.H_0 H' X.s_0.heap s.heap) (hok : HOk X.prog X.w H' s.heap) (nn : ∀ b, H b = none → H' b = none) : Inv X pins σ H' s :=
  ⟨I.ok, I.os, I.bare, un, I.loc, I.cell, nn _ I.free, fun x c e => nn _ (I.freeC x c e), fun p hp => by
    obtain ⟨a, b, c⟩ := I.pin p hp
    exact ⟨a, nn _ b, c⟩, hok, I.len⟩
theorem obj_at {P : Program} {w : World} {h : Heap} {a : Addr} {o : HO} (x : ObjOk P w H h a o) : ∃ ob, h.get? a = some ob := by
  cases o with
  | lst xs => obtain ⟨_, _, _, _, e⟩ := x; exact ⟨_, e⟩
  | tup xs => obtain ⟨_, _, _, o, e, _⟩ := x; exact ⟨_, e⟩
  | dK kvs => obtain ⟨_, _, _, _, o, _, _, e, _⟩ := x; exact ⟨_, e⟩
  | dT kvs => obtain ⟨_, _, _, _, o, _, _, e, _⟩ := x; exact ⟨_, e⟩
  | set S n => obtain ⟨o, _, _, _, e, _⟩ := x; exact ⟨_, e⟩
  | ins C dx fs => obtain ⟨_, _, _, e, _⟩ := x; exact ⟨_, e⟩
  | own y => exact x
  | xd fs => obtain ⟨_, ⟨_, _, _, e, _⟩, _⟩ := x; exact ⟨_, e⟩
  | rng lo hi => obtain ⟨_, _, _, e⟩ := x; exact ⟨_, e⟩
  | frz ob u => obtain ⟨e, _⟩ := x; exact ⟨_, e⟩
  | tbl ps => exact ⟨_, (show h.get? a = some _ from x)⟩
  | met f y => exact ⟨_, (show h.get? a = some _ from x)⟩
  | ext φ => obtain ⟨_, ⟨_, e⟩, _⟩ := x; exact ⟨_, e⟩
theorem freeze {p : Addr} {u : HO} (I : Inv X pins σ H s) (hp : H p = some u) (nt : ∀ xs, u ≠ .tup xs) (nf : ∀ o w, u ≠ .frz o w) (nb : ∀ ps, u ≠ .tbl ps) (no : ∀ a, u ≠ .own a) : ∃ o, Inv X pins σ (upd H p (.frz o u)) s := by
  have ok := I.hok p u hp
  obtain ⟨o, ho⟩ := obj_at ok
  refine ⟨o, Inv.heap_by I (freeze_un (o := o) I.base hp nt nf nb) (freeze_hok I.hok hp nt no ⟨ho, ok⟩) fun b hb => ?_⟩
  rw [upd_ne (fun e => by rw [e, hp] at hb; cases hb)]
  exact hb
end
end DW
namespace DW
open PySem L2

/-! ### slots -/
/-- what a slot holds: nothing known; data that stays; a list of its own (nobody else refers to it); the drawn list -/
inductive SV where
  | no | dat (d : PyData) | own (ds : List PyData) | dic (kvs : List (Key × PyData)) | drw | scr (ns : List Int)
/-- what an expression gives: data, or the very thing in slot i -/
inductive EV where
  | dat (d : PyData) | ali (i : Nat)
/-- what a def gives back -/
inductive RV where
  | dat (d : PyData) | lst (ds : List PyData)
abbrev Rho := List SV
def SV.isOwn : SV → Bool
  | .own _ => true
  | .dic _ => true
  | _ => false

inductive RpK (K : PySem.W.Frag) (H : Hp) : List (Key × V) → List (Key × PyData) → Prop
  | nil : RpK K H [] []
  | cons {k : Key} {v : V} {d : PyData} {vs : List (Key × V)} {ds : List (Key × PyData)} : Rp K H v d → RpK K H vs ds → RpK K H ((k, v) :: vs) ((k, d) :: ds)
theorem RpK.kt {K : PySem.W.Frag} {H H' : Hp} (k : KT H H') : ∀ {vs : List (Key × V)} {ds : List (Key × PyData)}, RpK K H vs ds → RpK K H' vs ds
  | _, _, .nil => .nil
  | _, _, .cons h q => .cons (h.kt k) (RpK.kt k q)

/-- the drawn list: three ints, the first one not below 0, the second one small -/
def Drawn (H : Hp) (a : Addr) : Prop := ∃ g m c : Int, H a = some (.lst [.int g, .int m, .int c]) ∧ 0 ≤ g ∧ 0 ≤ m ∧ m < 2 ^ 61 ∧ 0 ≤ c

/-- the heap over the one at the def's entry: the caller's things stay, but for the drawn list -/
structure Fr (H0 : Hp) (dr : Option Addr) (H : Hp) : Prop where
  ext : ∀ b o, H0 b = some o → dr ≠ some b → H b = some o
  kt : KT H0 H
  drw : ∀ a, dr = some a → Drawn H a

def OwnAt (K : PySem.W.Frag) (H0 : Hp) (dr : Option Addr) (H : Hp) (l : Addr) : SV → Prop
  | .own ds => H0 l = none ∧ dr ≠ some l ∧ ∃ vs, H l = some (.lst vs) ∧ RpL K H vs ds
  | .dic kvs => H0 l = none ∧ dr ≠ some l ∧ ∃ vs, H l = some (.dK vs) ∧ RpK K H vs kvs
  | _ => False
def SlotOk (K : PySem.W.Frag) (H0 : Hp) (dr : Option Addr) (H : Hp) (v : Option V) : SV → Prop
  | .no => True
  | .dat d => ∃ x, v = some x ∧ Rp K H x d
  | .own ds => ∃ l, v = some (.ref l) ∧ OwnAt K H0 dr H l (.own ds)
  | .dic kvs => ∃ l, v = some (.ref l) ∧ OwnAt K H0 dr H l (.dic kvs)
  | .drw => ∃ a, dr = some a ∧ v = some (.ref a)
  | .scr ns => ∃ a, v = some (.ref a) ∧ SqS K H a (ns.map V.int)

structure Rs (K : PySem.W.Frag) (H0 : Hp) (dr : Option Addr) (ρ : Rho) (σ : St) (H : Hp) : Prop where
  fr : Fr H0 dr H
  len : σ.length = ρ.length
  sl : ∀ (i : Nat) (sv : SV), ρ[i]? = some sv → SlotOk K H0 dr H (σ[i]?.join) sv
  sep : ∀ (i j : Nat) (si sj : SV) (l : Addr), ρ[i]? = some si → ρ[j]? = some sj → si.isOwn = true → sj.isOwn = true → σ[i]? = some (some (.ref l)) → σ[j]? = some (some (.ref l)) → i = j

/-- where a def is read -/
structure DC where
  X : Cx
  H0 : Hp
  dr : Option Addr
abbrev DC.K (C : DC) : PySem.W.Frag := C.X.K
abbrev DC.Rs (C : DC) (ρ : Rho) (σ : St) (H : Hp) : Prop := DW.Rs C.X.K C.H0 C.dr ρ σ H
abbrev DC.Rp (C : DC) (H : Hp) (v : V) (d : PyData) : Prop := DW.Rp C.X.K H v d
abbrev DC.RpL (C : DC) (H : Hp) (v : List V) (d : List PyData) : Prop := DW.RpL C.X.K H v d
def EvOk (K : PySem.W.Frag) (H : Hp) (σ : St) (v : V) : EV → Prop
  | .dat d => Rp K H v d
  | .ali i => σ[i]? = some (some v)
theorem EvOk.kt {K : PySem.W.Frag} {H H' : Hp} {σ : St} {v : V} (k : KT H H') : ∀ {ev : EV}, EvOk K H σ v ev → EvOk K H' σ v ev
  | .dat _, h => Rp.kt k h
  | .ali _, h => h

/-- an address that no slot owns, and that the caller does not know -/
structure New (H0 : Hp) (dr : Option Addr) (ρ : Rho) (σ : St) (p : Addr) : Prop where
  e : H0 p = none
  d : dr ≠ some p
  s : ∀ (i : Nat) (sv : SV), ρ[i]? = some sv → sv.isOwn = true → σ[i]? ≠ some (some (.ref p))

/-! ### the data's own wishes -/
def DE (C : DC) (ρ : Rho) (e : Expr) (k : EV → Rho → Prop) : Prop :=
  ∀ σ H (Q : VK), C.Rs ρ σ H → (∀ v ev ρ' H', KT H H' → C.Rs ρ' σ H' → EvOk C.X.K H' σ v ev → k ev ρ' → Q v H') → WE C.X e σ H Q
/-- a new list -/
def DL (C : DC) (ρ : Rho) (e : Expr) (k : List PyData → Rho → Prop) : Prop :=
  ∀ σ H (Q : VK), C.Rs ρ σ H → (∀ p vs ds ρ' H', KT H H' → C.Rs ρ' σ H' → New C.H0 C.dr ρ' σ p → H' p = some (.lst vs) → C.RpL H' vs ds → k ds ρ' → Q (.ref p) H') → WE C.X e σ H Q
def DT (C : DC) (ρ : Rho) (e : Expr) (k : Bool → Rho → Prop) : Prop :=
  ∀ σ H (Q : Bool → Hp → Prop), C.Rs ρ σ H → (∀ b ρ' H', KT H H' → C.Rs ρ' σ H' → k b ρ' → Q b H') → WT C.X e σ H Q
inductive EvsOk (K : PySem.W.Frag) (H : Hp) (σ : St) : List V → List EV → Prop
  | nil : EvsOk K H σ [] []
  | cons {v : V} {ev : EV} {vs : List V} {evs : List EV} : EvOk K H σ v ev → EvsOk K H σ vs evs → EvsOk K H σ (v :: vs) (ev :: evs)
def DA (C : DC) (ρ : Rho) (es : List Expr) (k : List EV → Rho → Prop) : Prop :=
  ∀ σ H (Q : List V → Hp → Prop), C.Rs ρ σ H → (∀ vs evs ρ' H', KT H H' → C.Rs ρ' σ H' → EvsOk C.X.K H' σ vs evs → k evs ρ' → Q vs H') → WA C.X es σ H Q
structure DEn where
  nx : Rho → Prop
  rt : RV → Prop
  bk : Rho → Prop
  ct : Rho → Prop
def RvOk (K : PySem.W.Frag) (H0 : Hp) (dr : Option Addr) (H : Hp) (v : V) : RV → Prop
  | .dat d => Rp K H v d
  | .lst ds => ∃ p vs, v = .ref p ∧ H0 p = none ∧ dr ≠ some p ∧ H p = some (.lst vs) ∧ RpL K H vs ds
structure Acc (C : DC) (H : Hp) (D : DEn) (E : Ends) : Prop where
  nx : ∀ ρ σ H', KT H H' → C.Rs ρ σ H' → D.nx ρ → E.nx σ H'
  rt : ∀ v rv H', KT H H' → Fr C.H0 C.dr H' → RvOk C.X.K C.H0 C.dr H' v rv → D.rt rv → E.rt v H'
  bk : ∀ ρ σ H', KT H H' → C.Rs ρ σ H' → D.bk ρ → E.bk σ H'
  ct : ∀ ρ σ H', KT H H' → C.Rs ρ σ H' → D.ct ρ → E.ct σ H'
def DS (C : DC) (ρ : Rho) (st : Stmt) (nx : Rho → Prop) (rt : RV → Prop) (bk ct : Rho → Prop) : Prop := ∀ σ H (E : Ends), C.Rs ρ σ H → Acc C H ⟨nx, rt, bk, ct⟩ E → WS C.X st E σ H
def DB (C : DC) (ρ : Rho) (sts : List Stmt) (nx : Rho → Prop) (rt : RV → Prop) (bk ct : Rho → Prop) : Prop := ∀ σ H (E : Ends), C.Rs ρ σ H → Acc C H ⟨nx, rt, bk, ct⟩ E → WB C.X sts E σ H

section
variable {C : DC} {ρ ρ' : Rho} {σ : St} {H H' : Hp} {e a b c : Expr} {es : List Expr} {pos : Pos} {k : EV → Rho → Prop}

/-! ### keeping -/
theorem Fr.ex {H0 H H' : Hp} {dr : Option Addr} (f : Fr H0 dr H) (e : Ex H H') : Fr H0 dr H' :=
  ⟨fun b o h n => e b o (f.ext b o h n), f.kt.trans e.kt, fun a h => by
    obtain ⟨g, m, c, q, r⟩ := f.drw a h
    exact ⟨g, m, c, e a _ q, r⟩⟩
theorem OwnAt.ex {K : PySem.W.Frag} {H0 H H' : Hp} {dr : Option Addr} {l : Addr} (e : Ex H H') : ∀ {sv : SV}, OwnAt K H0 dr H l sv → OwnAt K H0 dr H' l sv
  | .own _, ⟨a, b, vs, h, q⟩ => ⟨a, b, vs, e l _ h, q.kt e.kt⟩
  | .dic _, ⟨a, b, vs, h, q⟩ => ⟨a, b, vs, e l _ h, q.kt e.kt⟩
theorem SlotOk.ex {K : PySem.W.Frag} {H0 H H' : Hp} {dr : Option Addr} {v : Option V} (e : Ex H H') : ∀ {sv : SV}, SlotOk K H0 dr H v sv → SlotOk K H0 dr H' v sv
  | .no, _ => True.intro
  | .dat _, ⟨x, h, q⟩ => ⟨x, h, q.kt e.kt⟩
  | .own _, ⟨l, h, q⟩ => ⟨l, h, q.ex e⟩
  | .dic _, ⟨l, h, q⟩ => ⟨l, h, q.ex e⟩
  | .drw, h => h
  | .scr _, ⟨a, h, q⟩ => ⟨a, h, q.kt e.kt⟩
theorem Rs.ex {K : PySem.W.Frag} {H0 H H' : Hp} {dr : Option Addr} {ρ : Rho} {σ : St} (r : Rs K H0 dr ρ σ H) (e : Ex H H') : Rs K H0 dr ρ σ H' :=
  ⟨r.fr.ex e, r.len, fun i sv h => (r.sl i sv h).ex e, r.sep⟩
/-- a slot's value -/
theorem Rs.at {i : Nat} {sv : SV} (r : C.Rs ρ σ H) (h : ρ[i]? = some sv) : ∃ o, σ[i]? = some o := by
  have h1 : i < ρ.length := (List.getElem?_eq_some_iff.mp h).1
  rw [← r.len] at h1
  exact ⟨_, List.getElem?_eq_getElem h1⟩
theorem Rs.dat {i : Nat} {d : PyData} (r : C.Rs ρ σ H) (h : ρ[i]? = some (.dat d)) : ∃ x, σ[i]? = some (some x) ∧ C.Rp H x d := by
  obtain ⟨o, ho⟩ := Rs.at r h
  obtain ⟨x, h1, h2⟩ := r.sl i _ h
  rw [ho] at h1
  exact ⟨x, by rw [ho, show o = some x from h1], h2⟩
theorem Rs.own {i : Nat} {ds : List PyData} (r : C.Rs ρ σ H) (h : ρ[i]? = some (.own ds)) : ∃ l vs, σ[i]? = some (some (.ref l)) ∧ C.H0 l = none ∧ C.dr ≠ some l ∧ H l = some (.lst vs) ∧ C.RpL H vs ds := by
  obtain ⟨o, ho⟩ := Rs.at r h
  obtain ⟨l, h1, h2, h3, vs, h4, h5⟩ := r.sl i _ h
  rw [ho] at h1
  exact ⟨l, vs, by rw [ho, show o = some (.ref l) from h1], h2, h3, h4, h5⟩
theorem Rs.drw {i : Nat} (r : C.Rs ρ σ H) (h : ρ[i]? = some .drw) : ∃ a, σ[i]? = some (some (.ref a)) ∧ C.dr = some a := by
  obtain ⟨o, ho⟩ := Rs.at r h
  obtain ⟨a, h1, h2⟩ := r.sl i _ h
  rw [ho] at h2
  exact ⟨a, by rw [ho, show o = some (.ref a) from h2], h1⟩

/-! ### weakening -/
theorem DE.mono {k' : EV → Rho → Prop} (h : DE C ρ e k) (f : ∀ ev ρ', k ev ρ' → k' ev ρ') : DE C ρ e k' := fun σ H Q r q => h σ H Q r fun v ev ρ' H' kt r' ok hk => q v ev ρ' H' kt r' ok (f ev ρ' hk)
theorem Acc.kt {D : DEn} {E : Ends} (a : Acc C H D E) (k : KT H H') : Acc C H' D E :=
  ⟨fun ρ σ H2 q => a.nx ρ σ H2 (k.trans q), fun v rv H2 q => a.rt v rv H2 (k.trans q), fun ρ σ H2 q => a.bk ρ σ H2 (k.trans q), fun ρ σ H2 q => a.ct ρ σ H2 (k.trans q)⟩

/-! ### a new list as data that stays -/
theorem upd_ex_frz {p : Addr} {u : HO} {o : Obj} (hp : H p = some u) : ∀ b w, b ≠ p → H b = some w → upd H p (.frz o u) b = some w := fun b w n h => by
  rw [upd_ne n]
  exact h
theorem kt_frz {p : Addr} {vs : List V} {o : Obj} (hp : H p = some (.lst vs)) : KT H (upd H p (.frz o (.lst vs))) := ⟨fun b zs e => by
  rw [upd_ne (ne_of e hp (by intro z; cases z))]
  exact e, fun b o u e => by
  rw [upd_ne (ne_of e hp (by intro z; cases z))]
  exact e⟩
theorem Rs.frz {p : Addr} {vs : List V} {o : Obj} (r : C.Rs ρ σ H) (n : New C.H0 C.dr ρ σ p) (hp : H p = some (.lst vs)) : C.Rs ρ σ (upd H p (.frz o (.lst vs))) := by
  have kt := kt_frz (o := o) hp
  refine ⟨⟨fun b w h hd => ?_, r.fr.kt.trans kt, fun a h => ?_⟩, r.len, fun i sv h => ?_, r.sep⟩
  · rw [upd_ne (fun z => by rw [z, n.e] at h; cases h)]
    exact r.fr.ext b w h hd
  · obtain ⟨g, m, c, q, t⟩ := r.fr.drw a h
    exact ⟨g, m, c, by
      rw [upd_ne (fun z => n.d (by rw [h, z]))]
      exact q, t⟩
  · have hs := r.sl i sv h
    have hne : ∀ l, sv.isOwn = true → (σ[i]?.join) = some (.ref l) → l ≠ p := fun l ho e z => by
      subst z
      obtain ⟨w, hw⟩ := Rs.at r h
      rw [hw] at e
      exact n.s i sv h ho (by rw [hw, show w = some (.ref l) from e])
    cases sv with
    | no => exact True.intro
    | dat d =>
      obtain ⟨x, h1, h2⟩ := hs
      exact ⟨x, h1, h2.kt kt⟩
    | own ds =>
      obtain ⟨l, h1, h2, h3, ws, h4, h5⟩ := hs
      exact ⟨l, h1, h2, h3, ws, by
        rw [upd_ne (hne l rfl h1)]
        exact h4, h5.kt kt⟩
    | dic ds =>
      obtain ⟨l, h1, h2, h3, ws, h4, h5⟩ := hs
      exact ⟨l, h1, h2, h3, ws, by
        rw [upd_ne (hne l rfl h1)]
        exact h4, h5.kt kt⟩
    | drw => exact hs
    | scr ns =>
      obtain ⟨a, h1, h2⟩ := hs
      exact ⟨a, h1, h2.kt kt⟩
theorem DL.de (h : DL C ρ e fun ds ρ' => k (.dat (.list ds)) ρ') : DE C ρ e k := fun σ H Q r q =>
  (h σ H (fun v H' => ∃ p vs ds ρ', v = .ref p ∧ KT H H' ∧ C.Rs ρ' σ H' ∧ New C.H0 C.dr ρ' σ p ∧ H' p = some (.lst vs) ∧ C.RpL H' vs ds ∧ k (.dat (.list ds)) ρ') r
    fun p vs ds ρ' H' kt r' n hp hl hk => ⟨p, vs, ds, ρ', rfl, kt, r', n, hp, hl, hk⟩).thn fun pins s v u H' I rel ⟨p, vs, ds, ρ', hv, kt, r', n, hp, hl, hk⟩ => by
      obtain ⟨o, I'⟩ := freeze I hp (by intro xs z; cases z) (by intro o w z; cases z) (by intro ps z; cases z) (by intro a z; cases z)
      refine ⟨v, _, I', rel, q v _ ρ' _ (kt.trans (kt_frz hp)) (Rs.frz r' n hp) ?_ hk⟩
      rw [hv]
      exact Rp.lst ⟨o, upd_same⟩ (hl.kt (kt_frz hp))
end
end DW
namespace DW
open PySem L2

/-! ### data as it stands at the moment -/
inductive Mp (K : PySem.W.Frag) (H : Hp) : V → PyData → Prop
  | rp {v : V} {d : PyData} : Rp K H v d → Mp K H v d
  | own {l : Addr} {vs : List V} {ds : List PyData} : H l = some (.lst vs) → RpL K H vs ds → Mp K H (.ref l) (.list ds)
inductive MpL (K : PySem.W.Frag) (H : Hp) : List V → List PyData → Prop
  | nil : MpL K H [] []
  | cons {v : V} {vs : List V} {d : PyData} {ds : List PyData} : Mp K H v d → MpL K H vs ds → MpL K H (v :: vs) (d :: ds)
inductive DatOf (ρ : Rho) : EV → PyData → Prop
  | dat {d : PyData} : DatOf ρ (.dat d) d
  | own {i : Nat} {ds : List PyData} : ρ[i]? = some (.own ds) → DatOf ρ (.ali i) (.list ds)
inductive DatsOf (ρ : Rho) : List EV → List PyData → Prop
  | nil : DatsOf ρ [] []
  | cons {v : EV} {vs : List EV} {d : PyData} {ds : List PyData} : DatOf ρ v d → DatsOf ρ vs ds → DatsOf ρ (v :: vs) (d :: ds)
section
variable {C : DC} {ρ ρ' : Rho} {σ : St} {H H' : Hp} {e a b c : Expr} {es : List Expr} {pos : Pos} {k : EV → Rho → Prop}
theorem DatOf.mp {v : V} {d : PyData} {ev : EV} (h : DatOf ρ ev d) (r : C.Rs ρ σ H) (q : EvOk C.X.K H σ v ev) : Mp C.X.K H v d := by
  cases h with
  | dat => exact .rp q
  | own h =>
    obtain ⟨l, vs, h1, _, _, h2, h3⟩ := Rs.own r h
    have e := (show σ[_]? = some (some v) from q).symm.trans h1
    cases e
    exact .own h2 h3
theorem DatsOf.mp {evs : List EV} {ds : List PyData} (h : DatsOf ρ evs ds) (r : C.Rs ρ σ H) : ∀ {vs : List V}, EvsOk C.X.K H σ vs evs → MpL C.X.K H vs ds := by
  induction h with
  | nil => intro vs q; cases q; exact .nil
  | cons h _ ih =>
    intro vs q
    cases q with
    | cons q1 q2 => exact .cons (h.mp r q1) (ih q2)
theorem Mp.lst {K : PySem.W.Frag} {H : Hp} {v : V} {ds : List PyData} (h : Mp K H v (.list ds)) : ∃ l vs, v = .ref l ∧ SqL K H l vs ∧ RpL K H vs ds := by
  cases h with
  | rp h =>
    cases h with
    | lst h q => exact ⟨_, _, rfl, h.l, q⟩
  | own h q => exact ⟨_, _, rfl, .of h, q⟩
theorem Mp.rd {K : PySem.W.Frag} {H : Hp} {v : V} {ds : List PyData} (h : Mp K H v (.list ds)) : ∃ l vs, v = .ref l ∧ Rd H l (.lst vs) ∧ RpL K H vs ds := by
  cases h with
  | rp h =>
    cases h with
    | lst h q => exact ⟨_, _, rfl, .inr h, q⟩
  | own h q => exact ⟨_, _, rfl, .inl h, q⟩
theorem Mp.tup {K : PySem.W.Frag} {H : Hp} {v : V} {ds : List PyData} (h : Mp K H v (.tuple ds)) : ∃ l vs, v = .ref l ∧ SqT K H l vs ∧ RpL K H vs ds := by
  cases h with
  | rp h =>
    cases h with
    | tup h q => exact ⟨_, _, rfl, h, q⟩
theorem Mp.int {K : PySem.W.Frag} {H : Hp} {v : V} {i : Int} (h : Mp K H v (.int i)) : v = .int i := by
  cases h with
  | rp h => cases h; rfl
theorem Mp.str {K : PySem.W.Frag} {H : Hp} {v : V} {i : Str} (h : Mp K H v (.str i)) : v = .str i := by
  cases h with
  | rp h => cases h; rfl
theorem Mp.bl {K : PySem.W.Frag} {H : Hp} {v : V} {i : Bool} (h : Mp K H v (.bool i)) : v = .bl i := by
  cases h with
  | rp h => cases h; rfl
theorem Mp.non {K : PySem.W.Frag} {H : Hp} {v : V} (h : Mp K H v .none) : v = .non := by
  cases h with
  | rp h => cases h; rfl

/-! ### operations over data -/
def DOp (X : Cx) (f : Value → Value → Sem Value) (x y : PyData) (kd : PyData → Prop) : Prop :=
  ∀ pins s σ H (vx vy : V) (u w : Value) (Q : VK), Inv X pins σ H s → RelV vx u → RelV vy w → Mp X.K H vx x → Mp X.K H vy y → (∀ v d H', Ex H H' → Rp X.K H' v d → kd d → Q v H') →
    wpAny (model X.prog X.w) X.A (f u w) (EP X pins σ Q) X.xe s
/-- .. that give a new list -/
def DOpL (X : Cx) (f : Value → Value → Sem Value) (x y : PyData) (kd : List PyData → Prop) : Prop :=
  ∀ pins s σ H (vx vy : V) (u w : Value) (Q : VK), Inv X pins σ H s → RelV vx u → RelV vy w → Mp X.K H vx x → Mp X.K H vy y → (∀ p vs ds H', H p = none → Ex H H' → H' p = some (.lst vs) → RpL X.K H' vs ds → kd ds → Q (.ref p) H') →
    wpAny (model X.prog X.w) X.A (f u w) (EP X pins σ Q) X.xe s
def DUn (X : Cx) (f : Value → Sem Value) (x : PyData) (kd : PyData → Prop) : Prop :=
  ∀ pins s σ H (vx : V) (u : Value) (Q : VK), Inv X pins σ H s → RelV vx u → Mp X.K H vx x → (∀ v d H', Ex H H' → Rp X.K H' v d → kd d → Q v H') →
    wpAny (model X.prog X.w) X.A (f u) (EP X pins σ Q) X.xe s
def DCall (X : Cx) (f : Value) (xs : List PyData) (kd : PyData → Prop) : Prop :=
  ∀ pins s σ H (vs : List V) (us : List Value) (Q : VK), Inv X pins σ H s → Vals vs us → MpL X.K H vs xs → (∀ v d H', Ex H H' → Rp X.K H' v d → kd d → Q v H') →
    wpAny (model X.prog X.w) X.A (call f us) (EP X pins σ Q) X.xe s
def DCallL (X : Cx) (f : Value) (xs : List PyData) (kd : List PyData → Prop) : Prop :=
  ∀ pins s σ H (vs : List V) (us : List Value) (Q : VK), Inv X pins σ H s → Vals vs us → MpL X.K H vs xs → (∀ p vs ds H', H p = none → Ex H H' → H' p = some (.lst vs) → RpL X.K H' vs ds → kd ds → Q (.ref p) H') →
    wpAny (model X.prog X.w) X.A (call f us) (EP X pins σ Q) X.xe s

theorem New.of_none {p : Addr} (r : C.Rs ρ σ H) (h : H p = none) : New C.H0 C.dr ρ σ p := by
  refine ⟨?_, fun e => ?_, fun i sv hs ho e => ?_⟩
  · cases h1 : C.H0 p with
    | none => rfl
    | some o =>
      exfalso
      by_cases hd : C.dr = some p
      · obtain ⟨g, m, c, q, _⟩ := r.fr.drw p hd
        rw [h] at q
        cases q
      · have := r.fr.ext p o h1 hd
        rw [h] at this
        cases this
  · obtain ⟨g, m, c, q, _⟩ := r.fr.drw p e
    rw [h] at q
    cases q
  · have hs' := r.sl i sv hs
    cases sv with
    | own ds =>
      obtain ⟨l, h1, _, _, vs, h2, _⟩ := hs'
      rw [e] at h1
      cases h1
      rw [h] at h2
      cases h2
    | dic ds =>
      obtain ⟨l, h1, _, _, vs, h2, _⟩ := hs'
      rw [e] at h1
      cases h1
      rw [h] at h2
      cases h2
    | no => cases ho
    | dat d => cases ho
    | drw => cases ho
    | scr ns => cases ho

/-! ### names, constants -/
theorem de_dat {i : Nat} {x : Str} {d : PyData} (q : k (.dat d) ρ) (h : ρ[i]? = some (.dat d)) (hN : C.X.N[i]? = some x) (hv : Vis C.X.env.scope x) (hd : (x == ("__debug__" : Str)) = false := by decide) (hcd : (x == ("__classdict__" : Str)) = false := by decide) :
    DE C ρ (.Name x pos) k := fun σ H Q r g => by
  obtain ⟨v, h1, h2⟩ := Rs.dat r h
  exact WE.of (pe_var hN hv hd hcd) ⟨v, h1, g v (.dat d) ρ H (KT.refl H) r h2 q⟩
theorem de_own {i : Nat} {x : Str} {ds : List PyData} (q : k (.ali i) ρ) (h : ρ[i]? = some (.own ds)) (hN : C.X.N[i]? = some x) (hv : Vis C.X.env.scope x) (hd : (x == ("__debug__" : Str)) = false := by decide) (hcd : (x == ("__classdict__" : Str)) = false := by decide) :
    DE C ρ (.Name x pos) k := fun σ H Q r g => by
  obtain ⟨l, vs, h1, _⟩ := Rs.own r h
  exact WE.of (pe_var hN hv hd hcd) ⟨.ref l, h1, g _ (.ali i) ρ H (KT.refl H) r h1 q⟩
theorem de_drw {i : Nat} {x : Str} (q : k (.ali i) ρ) (h : ρ[i]? = some .drw) (hN : C.X.N[i]? = some x) (hv : Vis C.X.env.scope x) (hd : (x == ("__debug__" : Str)) = false := by decide) (hcd : (x == ("__classdict__" : Str)) = false := by decide) :
    DE C ρ (.Name x pos) k := fun σ H Q r g => by
  obtain ⟨l, h1, _⟩ := Rs.drw r h
  exact WE.of (pe_var hN hv hd hcd) ⟨.ref l, h1, g _ (.ali i) ρ H (KT.refl H) r h1 q⟩
theorem de_int {i : Int} {j} (q : k (.dat (.int i)) ρ) : DE C ρ (.Constant (.int i) j pos) k := fun σ H Q r g => WE.of pe_int (g _ (.dat (.int i)) ρ H (KT.refl H) r (.int i) q)
theorem de_bl {i : Bool} {j} (q : k (.dat (.bool i)) ρ) : DE C ρ (.Constant (.bool i) j pos) k := fun σ H Q r g => WE.of pe_bl (g _ (.dat (.bool i)) ρ H (KT.refl H) r (.bl i) q)
theorem de_str {i : Str} {j} (q : k (.dat (.str i)) ρ) : DE C ρ (.Constant (.str i) j pos) k := fun σ H Q r g => WE.of pe_str (g _ (.dat (.str i)) ρ H (KT.refl H) r (.str i) q)
theorem de_non {j} (q : k (.dat .none) ρ) : DE C ρ (.Constant .none j pos) k := fun σ H Q r g => WE.of pe_non (g _ (.dat .none) ρ H (KT.refl H) r .non q)
theorem de_globI {x : Str} {i : Int} {t : Tok} (hm : C.X.mg x = some (.int i t)) (hg : Gl C.X x) (q : k (.dat (.int i)) ρ) (hd : (x == ("__debug__" : Str)) = false := by decide) : DE C ρ (.Name x pos) k := fun σ H Q r g =>
  WE.of (pe_glob (v := .int i) hg hm ⟨t, rfl⟩ hd) (g _ (.dat (.int i)) ρ H (KT.refl H) r (.int i) q)
theorem de_globS {x : Str} {i : Str} {t : Tok} (hm : C.X.mg x = some (.str i t)) (hg : Gl C.X x) (q : k (.dat (.str i)) ρ) (hd : (x == ("__debug__" : Str)) = false := by decide) : DE C ρ (.Name x pos) k := fun σ H Q r g =>
  WE.of (pe_glob (v := .str i) hg hm ⟨t, rfl⟩ hd) (g _ (.dat (.str i)) ρ H (KT.refl H) r (.str i) q)

/-! ### operators -/
theorem de_bin2 {f : Value → Value → Sem Value} {e0 : Expr} (hr : ∀ t u (r : R2), OpR C.X f r → PE C.X a t → PE C.X b u → PE C.X e0 (tOp r t u))
    (h : DE C ρ a fun x ρ1 => DE C ρ1 b fun y ρ2 => ∃ dx dy, DatOf ρ2 x dx ∧ DatOf ρ2 y dy ∧ DOp C.X f dx dy fun d => k (.dat d) ρ2) : DE C ρ e0 k := fun σ H Q r g => by
  have ho : OpR C.X f (fun x y H Q => ∀ pins s (v u : Value), Inv C.X pins σ H s → RelV x v → RelV y u → wpAny (model C.X.prog C.X.w) C.X.A (f v u) (EP C.X pins σ Q) C.X.xe s) → True := fun _ => trivial
  have hO : OpR C.X f (fun x y H Q => ∀ pins s σ (v u : Value), Inv C.X pins σ H s → RelV x v → RelV y u → wpAny (model C.X.prog C.X.w) C.X.A (f v u) (EP C.X pins σ Q) C.X.xe s) :=
    fun pins s σ H x y v u Q I rx ry z => z pins s σ v u I rx ry
  refine WE.of (hr _ _ _ hO WE.pe WE.pe) ?_
  show WE C.X a σ H _
  refine h σ H _ r fun v1 x ρ1 H1 k1 r1 o1 h1 => ?_
  refine h1 σ H1 _ r1 fun v2 y ρ2 H2 k2 r2 o2 h2 => ?_
  obtain ⟨dx, dy, hx, hy, hop⟩ := h2
  intro pins s σ' u w I rx ry
  -- the operation itself does not look at the slots
  refine hop pins s σ' H2 v1 v2 u w Q I rx ry (hx.mp r2 (o1.kt k2)) (hy.mp r2 o2) fun v d H' ex rp hk => ?_
  exact g v (.dat d) ρ2 H' ((k1.trans k2).trans ex.kt) (r2.ex ex) rp hk
theorem de_op {op : Operator} (h : DE C ρ a fun x ρ1 => DE C ρ1 b fun y ρ2 => ∃ dx dy, DatOf ρ2 x dx ∧ DatOf ρ2 y dy ∧ DOp C.X (binaryOp op) dx dy fun d => k (.dat d) ρ2) : DE C ρ (.BinOp a op b pos) k :=
  de_bin2 (fun _ _ _ ho ha hb => pe_op ho ha hb) h
theorem de_cmp {op : CmpOp} (h : DE C ρ a fun x ρ1 => DE C ρ1 b fun y ρ2 => ∃ dx dy, DatOf ρ2 x dx ∧ DatOf ρ2 y dy ∧ DOp C.X (compareOp op) dx dy fun d => k (.dat d) ρ2) (hm : behindInMarks op b = false := by first | exact nomark _ | rfl) : DE C ρ (.Compare a [op] [b] pos) k :=
  de_bin2 (fun _ _ _ ho ha hb => pe_cmpR ho ha hb hm) h
def DIx (X : Cx) (x y : PyData) (kd : PyData → Prop) : Prop :=
  ∀ H (vx vy : V) (Q : VK), Mp X.K H vx x → Mp X.K H vy y → (∀ v d, Rp X.K H v d → kd d → Q v H) → rIx X.K vx vy H Q
theorem de_ix (h : DE C ρ a fun x ρ1 => DE C ρ1 b fun y ρ2 => ∃ dx dy, DatOf ρ2 x dx ∧ DatOf ρ2 y dy ∧ DIx C.X dx dy fun d => k (.dat d) ρ2) (hs : PlainIx b := by exact fun _ _ => rfl) : DE C ρ (.Subscript a b pos) k := fun σ H Q r g => by
  refine WE.of (pe_ix ix_seq WE.pe WE.pe hs) ?_
  show WE C.X a σ H _
  refine h σ H _ r fun v1 x ρ1 H1 k1 r1 o1 h1 => ?_
  refine h1 σ H1 _ r1 fun v2 y ρ2 H2 k2 r2 o2 h2 => ?_
  obtain ⟨dx, dy, hx, hy, hop⟩ := h2
  exact hop H2 v1 v2 Q (hx.mp r2 (o1.kt k2)) (hy.mp r2 o2) fun v d rp hk => g v (.dat d) ρ2 H2 (k1.trans k2) r2 rp hk
theorem dix_tup {ds : List PyData} {i : Int} {d : PyData} {kd : PyData → Prop} (h : atI ds i = some d) (q : kd d) : DIx C.X (.tuple ds) (.int i) kd := fun H vx vy Q hx hy g => by
  obtain ⟨l, vs, rfl, h1, h2⟩ := hx.tup
  cases hy.int
  obtain ⟨j, hj, e⟩ : ∃ j, ixN ds.length i = some j ∧ ds[j]? = some d := by
    unfold atI at h
    cases e : ixN ds.length i with
    | none => rw [e] at h; cases h
    | some j => rw [e] at h; exact ⟨j, rfl, h⟩
  obtain ⟨v, hv, rv⟩ := h2.getD e
  exact .inr (.inl ⟨l, vs, i, v, rfl, rfl, h1, by unfold atI; rw [h2.length, hj]; exact hv, g v d rv q⟩)
theorem dix_lst {ds : List PyData} {i : Int} {d : PyData} {kd : PyData → Prop} (h : atI ds i = some d) (q : kd d) : DIx C.X (.list ds) (.int i) kd := fun H vx vy Q hx hy g => by
  obtain ⟨l, vs, rfl, h1, h2⟩ := hx.lst
  cases hy.int
  obtain ⟨j, hj, e⟩ : ∃ j, ixN ds.length i = some j ∧ ds[j]? = some d := by
    unfold atI at h
    cases e : ixN ds.length i with
    | none => rw [e] at h; cases h
    | some j => rw [e] at h; exact ⟨j, rfl, h⟩
  obtain ⟨v, hv, rv⟩ := h2.getD e
  exact .inl ⟨l, vs, i, v, rfl, rfl, h1, by unfold atI; rw [h2.length, hj]; exact hv, g v d rv q⟩
theorem dix_str {z : Str} {i : Int} {c : Nat} {kd : PyData → Prop} (hz : z.length ≤ sizeLine) (h : atI z.cps.toList i = some c) (q : kd (.str ⟨#[c]⟩)) : DIx C.X (.str z) (.int i) kd := fun H vx vy Q hx hy g => by
  cases hx.str
  cases hy.int
  exact .inr (.inr ⟨z, i, c, rfl, rfl, hz, h, g _ _ (.str _) q⟩)
theorem de_un {op : UnaryOp} (h : DE C ρ a fun x ρ1 => ∃ dx, DatOf ρ1 x dx ∧ DUn C.X (unaryOp op) dx fun d => k (.dat d) ρ1) : DE C ρ (.UnaryOp op a pos) k := fun σ H Q r g => by
  have hO : UnR C.X (unaryOp op) (fun x H Q => ∀ pins s σ (v : Value), Inv C.X pins σ H s → RelV x v → wpAny (model C.X.prog C.X.w) C.X.A (unaryOp op v) (EP C.X pins σ Q) C.X.xe s) :=
    fun pins s σ H x v Q I rx z => z pins s σ v I rx
  refine WE.of (pe_un hO WE.pe) ?_
  show WE C.X a σ H _
  refine h σ H _ r fun v1 x ρ1 H1 k1 r1 o1 h1 => ?_
  obtain ⟨dx, hx, hop⟩ := h1
  intro pins s σ' u I rx
  exact hop pins s σ' H1 v1 u Q I rx (hx.mp r1 o1) fun v d H' ex rp hk => g v (.dat d) ρ1 H' (k1.trans ex.kt) (r1.ex ex) rp hk

/-! ### single operations -/
theorem DOp.of {f : Value → Value → Sem Value} {r : R2} {x y : PyData} {kd : PyData → Prop} (ho : OpR C.X f r)
    (h : ∀ H (vx vy : V) (Q : VK), Mp C.X.K H vx x → Mp C.X.K H vy y → (∀ v d H', Ex H H' → Rp C.X.K H' v d → kd d → Q v H') → r vx vy H Q) : DOp C.X f x y kd :=
  fun pins s σ H vx vy u w Q I rx ry mx my g => ho pins s σ H vx vy u w Q I rx ry (h H vx vy Q mx my g)
theorem DOp.int0 {f : Value → Value → Sem Value} {g : Int → Int → V} {i j : Int} {d : PyData} {kd : PyData → Prop} (ho : OpR C.X f (rI0 g)) (hd : ∀ H, Rp C.X.K H (g i j) d) (q : kd d) : DOp C.X f (.int i) (.int j) kd :=
  DOp.of ho fun H vx vy Q mx my z => by
    cases mx.int
    cases my.int
    exact ⟨i, j, rfl, rfl, z _ d H (Ex.refl H) (hd H) q⟩
theorem DOp.intC {f : Value → Value → Sem Value} {P : Int → Int → Prop} {g : Int → Int → V} {i j : Int} {d : PyData} {kd : PyData → Prop} (ho : OpR C.X f (rI P g)) (hp : P i j) (hd : ∀ H, Rp C.X.K H (g i j) d) (q : kd d) : DOp C.X f (.int i) (.int j) kd :=
  DOp.of ho fun H vx vy Q mx my z => by
    cases mx.int
    cases my.int
    exact ⟨i, j, rfl, rfl, hp, z _ d H (Ex.refl H) (hd H) q⟩
section
variable {i j : Int} {kd : PyData → Prop}
theorem do_add (q : kd (.int (i + j))) : DOp C.X (binaryOp .Add) (.int i) (.int j) kd := .int0 op_add (fun _ => .int _) q
theorem do_sub (q : kd (.int (i - j))) : DOp C.X (binaryOp .Sub) (.int i) (.int j) kd := .int0 op_sub (fun _ => .int _) q
theorem do_mul (q : kd (.int (i * j))) (hc : CMul i j) : DOp C.X (binaryOp .Mult) (.int i) (.int j) kd := .intC op_mul hc (fun _ => .int _) q
theorem do_fdiv (q : kd (.int (i / j))) (hc : CDiv i j) : DOp C.X (binaryOp .FloorDiv) (.int i) (.int j) kd := .intC op_fdiv hc (fun _ => .int _) q
theorem do_mod (q : kd (.int (i % j))) (hc : 0 < j) : DOp C.X (binaryOp .Mod) (.int i) (.int j) kd := .intC op_mod hc (fun _ => .int _) q
theorem do_pow (q : kd (.int (i ^ j.toNat))) (hc : CPow i j) : DOp C.X (binaryOp .Pow) (.int i) (.int j) kd := .intC op_pow hc (fun _ => .int _) q
theorem do_lt (q : kd (.bool (decide (i < j)))) : DOp C.X (compareOp .Lt) (.int i) (.int j) kd := .int0 op_lt (fun _ => .bl _) q
theorem do_le (q : kd (.bool (decide (i ≤ j)))) : DOp C.X (compareOp .LtE) (.int i) (.int j) kd := .int0 op_le (fun _ => .bl _) q
theorem do_gt (q : kd (.bool (decide (j < i)))) : DOp C.X (compareOp .Gt) (.int i) (.int j) kd := .int0 op_gt (fun _ => .bl _) q
theorem do_ge (q : kd (.bool (decide (j ≤ i)))) : DOp C.X (compareOp .GtE) (.int i) (.int j) kd := .int0 op_ge (fun _ => .bl _) q
end
end
end DW
namespace DW
open PySem L2

/-! ### the library's reading of such data -/
section
variable {X : Cx} {pins : List (Addr × Obj)} {σ : St} {H : Hp} {s : Shared}
mutual
theorem rp_reads (I : Inv X pins σ H s) : ∀ (d : PyData) (v : V) (u : Value), Rp X.K H v d → RelV v u → ∃ as, Reads s.heap u d as
  | .none, _, _, h, r => by
    cases h
    cases r
    exact ⟨_, Reads.none⟩
  | .bool b, _, _, h, r => by
    cases h
    cases r
    exact ⟨_, Reads.bool b⟩
  | .int i, _, _, h, r => by
    cases h
    obtain ⟨t, rfl⟩ := r
    exact ⟨_, Reads.int i t⟩
  | .str x, _, _, h, r => by
    cases h
    obtain ⟨t, rfl⟩ := r
    exact ⟨_, Reads.str x t⟩
  | .list ds, _, _, h, r => by
    cases h with
    | lst hs ha =>
      cases r
      obtain ⟨its, rv, ⟨o, n, ho, hc, _, hd⟩, _⟩ := I.list hs.l
      obtain ⟨as, hr⟩ := rpl_reads I ds _ its ha rv
      exact ⟨_, Reads.list ho hc hd hr⟩
  | .tuple ds, _, _, h, r => by
    cases h with
    | tup hs ha =>
      cases r
      obtain ⟨its, rv, ⟨o, ho, hc, n, hd⟩, _⟩ := I.tuple hs
      obtain ⟨as, hr⟩ := rpl_reads I ds _ its ha rv
      exact ⟨_, Reads.tuple ho hc hd hr⟩
  | .dict kvs, _, _, h, r => by
    cases h with
    | @dic a o hs =>
      cases r
      obtain ⟨_, _, _, vs, r0, ob, es, ep, he, hc, hd, _, hes, _⟩ := (show ObjOk X.prog X.w H s.heap a (.frz o (.dK [])) from I.hok a _ hs)
      cases r0
      have hes' : es.toList = [] := List.length_eq_zero_iff.mp (by rw [hes.length]; rfl)
      exact ⟨_, Reads.dict (kvs := []) he hc.1 hd (by rw [hes']; exact ReadsAll.nil) (by rw [hes']; exact ReadsAll.nil)⟩
theorem rpl_reads (I : Inv X pins σ H s) : ∀ (ds : List PyData) (vs : List V) (us : List Value), RpL X.K H vs ds → Vals vs us → ∃ as, ReadsAll s.heap us ds as
  | [], _, _, h, r => by
    cases h
    cases r
    exact ⟨_, ReadsAll.nil⟩
  | d :: ds, _, _, h, r => by
    cases h with
    | cons h1 h2 =>
      cases r with
      | cons r1 r2 =>
        obtain ⟨as, q1⟩ := rp_reads I d _ _ h1 r1
        obtain ⟨bs, q2⟩ := rpl_reads I ds _ _ h2 r2
        exact ⟨_, ReadsAll.cons q1 q2⟩
end
theorem mp_reads (I : Inv X pins σ H s) {d : PyData} {v : V} {u : Value} (h : Mp X.K H v d) (r : RelV v u) : ∃ as, Reads s.heap u d as := by
  cases h with
  | rp h => exact rp_reads I d v u h r
  | own hl hs =>
    cases r
    obtain ⟨its, rv, ⟨o, n, ho, hc, _, hd⟩, _⟩ := I.list (SqL.of hl)
    obtain ⟨as, hr⟩ := rpl_reads I _ _ its hs rv
    exact ⟨_, Reads.list ho hc hd hr⟩
end

section
variable {C : DC} {ρ ρ' : Rho} {σ : St} {H H' : Hp} {e a b c : Expr} {es : List Expr} {pos : Pos} {k : EV → Rho → Prop} {kd : PyData → Prop}
/-- room for a comparison of data -/
def Rm (C : DC) : Prop := C.X.A.units + 200 < cLine
theorem Rm.u64 (h : Rm C) : C.X.A.units + 64 < cLine := by unfold Rm at h; omega
theorem Rm.u0 (h : Rm C) : C.X.A.units < cLine := by unfold Rm at h; omega
theorem do_eq {x y : PyData} (hm : Rm C) (hx : SeqAt.shaped x = true) (hy : SeqAt.shaped y = true) (q : kd (.bool (PyData.eqv x y))) : DOp C.X (compareOp .Eq) x y kd := fun pins s σ H vx vy u w Q I rx ry mx my g => by
  obtain ⟨as, r1⟩ := mp_reads I mx rx
  obtain ⟨bs, r2⟩ := mp_reads I my ry
  exact SeqAt.compareEq_shaped r1 r2 hx hy hm.u64 ⟨.bl _, H, I, rfl, g _ _ H (Ex.refl H) (.bl _) q⟩
theorem do_ne {x y : PyData} (hm : Rm C) (hx : SeqAt.shaped x = true) (hy : SeqAt.shaped y = true) (q : kd (.bool (!PyData.eqv x y))) : DOp C.X (compareOp .NotEq) x y kd := fun pins s σ H vx vy u w Q I rx ry mx my g => by
  obtain ⟨as, r1⟩ := mp_reads I mx rx
  obtain ⟨bs, r2⟩ := mp_reads I my ry
  exact SeqAt.compareNe_shaped r1 r2 hx hy hm.u64 ⟨.bl _, H, I, rfl, g _ _ H (Ex.refl H) (.bl _) q⟩
theorem do_eqS {x y : Str} (q : kd (.bool (decide (x = y)))) : DOp C.X (compareOp .Eq) (.str x) (.str y) kd :=
  DOp.of op_eq fun H vx vy Q mx my z => by
    cases mx.str
    cases my.str
    refine ⟨rfl, ?_⟩
    have e : decide (V.str x = V.str y) = decide (x = y) := by rw [decide_eq_decide]; exact ⟨fun h => V.str.inj h, fun h => by rw [h]⟩
    rw [e]
    exact z _ _ H (Ex.refl H) (.bl _) q
theorem do_neS {x y : Str} (q : kd (.bool (!decide (x = y)))) : DOp C.X (compareOp .NotEq) (.str x) (.str y) kd :=
  DOp.of op_ne fun H vx vy Q mx my z => by
    cases mx.str
    cases my.str
    refine ⟨rfl, ?_⟩
    have e : decide (V.str x = V.str y) = decide (x = y) := by rw [decide_eq_decide]; exact ⟨fun h => V.str.inj h, fun h => by rw [h]⟩
    rw [e]
    exact z _ _ H (Ex.refl H) (.bl _) q
theorem do_eqI {x y : Int} (q : kd (.bool (decide (x = y)))) : DOp C.X (compareOp .Eq) (.int x) (.int y) kd :=
  DOp.of op_eq fun H vx vy Q mx my z => by
    cases mx.int
    cases my.int
    refine ⟨rfl, ?_⟩
    have e : decide (V.int x = V.int y) = decide (x = y) := by rw [decide_eq_decide]; exact ⟨fun h => V.int.inj h, fun h => by rw [h]⟩
    rw [e]
    exact z _ _ H (Ex.refl H) (.bl _) q
theorem do_neI {x y : Int} (q : kd (.bool (!decide (x = y)))) : DOp C.X (compareOp .NotEq) (.int x) (.int y) kd :=
  DOp.of op_ne fun H vx vy Q mx my z => by
    cases mx.int
    cases my.int
    refine ⟨rfl, ?_⟩
    have e : decide (V.int x = V.int y) = decide (x = y) := by rw [decide_eq_decide]; exact ⟨fun h => V.int.inj h, fun h => by rw [h]⟩
    rw [e]
    exact z _ _ H (Ex.refl H) (.bl _) q
theorem do_eqB {x y : Bool} (q : kd (.bool (decide (x = y)))) : DOp C.X (compareOp .Eq) (.bool x) (.bool y) kd :=
  DOp.of op_eq fun H vx vy Q mx my z => by
    cases mx.bl
    cases my.bl
    refine ⟨rfl, ?_⟩
    have e : decide (V.bl x = V.bl y) = decide (x = y) := by rw [decide_eq_decide]; exact ⟨fun h => V.bl.inj h, fun h => by rw [h]⟩
    rw [e]
    exact z _ _ H (Ex.refl H) (.bl _) q
theorem do_neB {x y : Bool} (q : kd (.bool (!decide (x = y)))) : DOp C.X (compareOp .NotEq) (.bool x) (.bool y) kd :=
  DOp.of op_ne fun H vx vy Q mx my z => by
    cases mx.bl
    cases my.bl
    refine ⟨rfl, ?_⟩
    have e : decide (V.bl x = V.bl y) = decide (x = y) := by rw [decide_eq_decide]; exact ⟨fun h => V.bl.inj h, fun h => by rw [h]⟩
    rw [e]
    exact z _ _ H (Ex.refl H) (.bl _) q
theorem nil_size (its : List Value) (ds : List PyData) (vs : List V) (h1 : Vals vs its) (h2 : RpL C.X.K H vs ds) : its.length = ds.length := by rw [← h1.length, h2.length]
/-- a list against [] -/
theorem do_eqL0 {ds : List PyData} (hm : Rm C) (q : kd (.bool ds.isEmpty)) : DOp C.X (compareOp .Eq) (.list ds) (.list []) kd := fun pins s σ H vx vy u w Q I rx ry mx my g => by
  obtain ⟨l, vs, rfl, h1, h2⟩ := mx.lst
  obtain ⟨l', vs', rfl, h1', h2'⟩ := my.lst
  cases rx
  cases ry
  cases h2'
  obtain ⟨its, rv, ⟨o, n, ho, hc, _, hd⟩, _⟩ := I.list h1
  obtain ⟨its', rv', ⟨o', n', ho', hc', _, hd'⟩, _⟩ := I.list h1'
  cases rv'
  have e := nil_size its ds vs rv h2
  cases ds with
  | nil =>
    have e0 : its = [] := List.length_eq_zero_iff.mp e
    subst e0
    exact SeqAt.eq_listAt (e := fun _ => true) ⟨o, ho, hc, n, hd⟩ ⟨o', ho', hc', n', hd'⟩ rfl hm.u0 (fun j j1 _ => absurd j1 (Nat.not_lt_zero _)) ⟨.bl true, H, I, rfl, g _ _ H (Ex.refl H) (.bl _) q⟩
  | cons d ds =>
    refine SeqAt.eq_list_lengthsAt ⟨o, ho, hc, n, hd⟩ ⟨o', ho', hc', n', hd'⟩ ?_ hm.u0 ⟨.bl false, H, I, rfl, g _ _ H (Ex.refl H) (.bl _) q⟩
    rw [List.size_toArray, e]
    rfl
theorem do_neL0 {ds : List PyData} (hm : Rm C) (q : kd (.bool (!ds.isEmpty))) : DOp C.X (compareOp .NotEq) (.list ds) (.list []) kd := fun pins s σ H vx vy u w Q I rx ry mx my g => by
  obtain ⟨l, vs, rfl, h1, h2⟩ := mx.lst
  obtain ⟨l', vs', rfl, h1', h2'⟩ := my.lst
  cases rx
  cases ry
  cases h2'
  obtain ⟨its, rv, ⟨o, n, ho, hc, _, hd⟩, _⟩ := I.list h1
  obtain ⟨its', rv', ⟨o', n', ho', hc', _, hd'⟩, _⟩ := I.list h1'
  cases rv'
  have e := nil_size its ds vs rv h2
  cases ds with
  | nil =>
    have e0 : its = [] := List.length_eq_zero_iff.mp e
    subst e0
    exact SeqAt.RcNeAt.lists (e := fun _ => true) ⟨o, ho, hc, n, hd⟩ ⟨o', ho', hc', n', hd'⟩ rfl hm.u0 (fun j j1 _ => absurd j1 (Nat.not_lt_zero _)) _ _ _ _ ⟨.bl false, H, I, rfl, g _ _ H (Ex.refl H) (.bl _) q⟩
  | cons d ds =>
    refine SeqAt.RcNeAt.lists_lengths ⟨o, ho, hc, n, hd⟩ ⟨o', ho', hc', n', hd'⟩ ?_ hm.u0 _ _ _ _ ⟨.bl true, H, I, rfl, g _ _ H (Ex.refl H) (.bl _) q⟩
    rw [List.size_toArray, e]
    rfl
/-- a tuple against () -/
theorem do_eqT0 {ds : List PyData} (hm : Rm C) (q : kd (.bool ds.isEmpty)) : DOp C.X (compareOp .Eq) (.tuple ds) (.tuple []) kd := fun pins s σ H vx vy u w Q I rx ry mx my g => by
  obtain ⟨l, vs, rfl, h1, h2⟩ := mx.tup
  obtain ⟨l', vs', rfl, h1', h2'⟩ := my.tup
  cases rx
  cases ry
  cases h2'
  obtain ⟨its, rv, ⟨o, ho, hc, n, hd⟩, _⟩ := I.tuple h1
  obtain ⟨its', rv', ⟨o', ho', hc', n', hd'⟩, _⟩ := I.tuple h1'
  cases rv'
  have e := nil_size its ds vs rv h2
  refine SeqAt.eq_tupleAt (e := fun _ => true) ⟨o, ho, hc, n, hd⟩ ⟨o', ho', hc', n', hd'⟩ hm.u0 (fun j _ j1 => absurd j1 (Nat.not_lt_zero _)) ?_
  have e2 : ((List.range (min its.toArray.size (#[] : Array Value).size)).all (fun _ => true) && its.toArray.size == (#[] : Array Value).size) = ds.isEmpty := by
    rw [List.size_toArray, e]
    cases ds with
    | nil => rfl
    | cons d ds =>
      rw [List.isEmpty_cons]
      simp
  show EP C.X pins σ Q (.bool ((List.range (min its.toArray.size (#[] : Array Value).size)).all (fun _ => true) && its.toArray.size == (#[] : Array Value).size)) s
  rw [e2]
  exact ⟨.bl _, H, I, rfl, g _ _ H (Ex.refl H) (.bl _) q⟩
/-- is None -/
def isN : PyData → Bool
  | .none => true
  | _ => false
theorem isN_mp {K : PySem.W.Frag} {v : V} {d : PyData} (h : Mp K H v d) : decide (v = .non) = isN d := by
  cases h with
  | rp h => cases h <;> first | rfl | (exact decide_eq_false (fun z => nomatch z))
  | own h q => exact decide_eq_false (fun z => nomatch z)
theorem do_isN {x : PyData} (q : kd (.bool (isN x))) : DOp C.X (compareOp .Is) x .none kd := DOp.of op_isN fun H vx vy Q mx my z => by
  cases my.non
  refine ⟨rfl, ?_⟩
  rw [isN_mp mx]
  exact z _ _ H (Ex.refl H) (.bl _) q
theorem do_notN {x : PyData} (q : kd (.bool (!isN x))) : DOp C.X (compareOp .IsNot) x .none kd := DOp.of op_notN fun H vx vy Q mx my z => by
  cases my.non
  refine ⟨rfl, ?_⟩
  rw [isN_mp mx]
  exact z _ _ H (Ex.refl H) (.bl _) q

/-! ### tests -/
def WW (X : Cx) (e : Expr) : TT := fun σ H Q => ∀ whole pins s, Inv X pins σ H s → wpAny (model X.prog X.w) X.A (isTrue e X.env whole) (TP X pins σ Q) X.xe s
theorem WW.pw {X : Cx} : PW X e (WW X e) := ⟨fun whole pins s _ _ _ I h => h whole pins s I⟩
theorem WW.of {X : Cx} {t : TT} {Q : Bool → Hp → Prop} (h : PW X e t) (q : t σ H Q) : WW X e σ H Q := fun whole pins s I => h.run whole pins s σ H Q I q
def DW (C : DC) (ρ : Rho) (e : Expr) (k : Bool → Rho → Prop) : Prop :=
  ∀ σ H (Q : Bool → Hp → Prop), C.Rs ρ σ H → (∀ b ρ' H', KT H H' → C.Rs ρ' σ H' → k b ρ' → Q b H') → WW C.X e σ H Q
variable {kt : Bool → Rho → Prop}
theorem DW.dt (h : DW C ρ e kt) : DT C ρ e kt := fun σ H Q r g => fun pins s I => h σ H Q r g _ pins s I
theorem dt_cmp {op : CmpOp} (h : DE C ρ a fun x ρ1 => DE C ρ1 b fun y ρ2 => ∃ dx dy, DatOf ρ2 x dx ∧ DatOf ρ2 y dy ∧ DOp C.X (compareOp op) dx dy fun d => ∃ t, d = .bool t ∧ kt t ρ2) (hm : behindInMarks op b = false := by first | exact nomark _ | rfl) :
    DT C ρ (.Compare a [op] [b] pos) kt := fun σ H Q r g => by
  have hO : OpR C.X (compareOp op) (fun x y H Q => ∀ pins s σ (v u : Value), Inv C.X pins σ H s → RelV x v → RelV y u → wpAny (model C.X.prog C.X.w) C.X.A (compareOp op v u) (EP C.X pins σ Q) C.X.xe s) :=
    fun pins s σ H x y v u Q I rx ry z => z pins s σ v u I rx ry
  refine WT.of (pt_cmpR hO WE.pe WE.pe hm) ?_
  show WE C.X a σ H _
  refine h σ H _ r fun v1 x ρ1 H1 k1 r1 o1 h1 => ?_
  refine h1 σ H1 _ r1 fun v2 y ρ2 H2 k2 r2 o2 h2 => ?_
  obtain ⟨dx, dy, hx, hy, hop⟩ := h2
  intro pins s σ' u w I rx ry
  refine hop pins s σ' H2 v1 v2 u w _ I rx ry (hx.mp r2 (o1.kt k2)) (hy.mp r2 o2) fun v d H' ex rp hk => ?_
  obtain ⟨t, rfl, hk⟩ := hk
  cases rp
  exact ⟨t, rfl, g t ρ2 H' ((k1.trans k2).trans ex.kt) (r2.ex ex) hk⟩
/-- any expression, by its truth -/
inductive Truth : PyData → Bool → Prop
  | bl (b : Bool) : Truth (.bool b) b
  | non : Truth .none false
  | int (i : Int) : Truth (.int i) (i != 0)
  | lst (ds : List PyData) : Truth (.list ds) (!ds.isEmpty)
  | tup (ds : List PyData) : Truth (.tuple ds) (!ds.isEmpty)
theorem dt_val (h : DE C ρ e fun x ρ1 => ∃ b, x = .dat (.bool b) ∧ kt b ρ1) (he : ∀ whole, isTrue e C.X.env whole = (do let v ← whole; standAt e.pos; holding [v] (truthy v)) := by intro _; rfl) : DT C ρ e kt := fun σ H Q r g => by
  refine WT.of (pt_val WE.pe he) ?_
  show WE C.X e σ H _
  refine h σ H _ r fun v1 x ρ1 H1 k1 r1 o1 h1 => ?_
  obtain ⟨b, rfl, hk⟩ := h1
  cases o1
  exact ⟨b, rfl, g b ρ1 H1 k1 r1 hk⟩
theorem dt_not (h : DT C ρ a fun b ρ1 => kt (!b) ρ1) : DT C ρ (.UnaryOp .Not a pos) kt := fun σ H Q r g => by
  refine WT.of (pt_not WT.pt) ?_
  show WT C.X a σ H _
  exact h σ H _ r fun b ρ1 H1 k1 r1 h1 => g _ ρ1 H1 k1 r1 h1
variable {rest : List Expr}
theorem dw_and (h : DT C ρ a fun b1 ρ1 => (b1 = true → DW C ρ1 (.BoolOp .And (b :: rest) pos) kt) ∧ (b1 = false → kt false ρ1)) : DW C ρ (.BoolOp .And (a :: b :: rest) pos) kt := fun σ H Q r g => by
  refine WW.of (pw_and WT.pt WW.pw) ?_
  show WT C.X a σ H _
  refine h σ H _ r fun b1 ρ1 H1 k1 r1 h1 => ?_
  cases b1 with
  | true => exact iteT (h1.1 rfl σ H1 Q r1 fun b ρ2 H2 k2 r2 h2 => g b ρ2 H2 (k1.trans k2) r2 h2)
  | false => exact iteF (g false ρ1 H1 k1 r1 (h1.2 rfl))
theorem dw_or (h : DT C ρ a fun b1 ρ1 => (b1 = true → kt true ρ1) ∧ (b1 = false → DW C ρ1 (.BoolOp .Or (b :: rest) pos) kt)) : DW C ρ (.BoolOp .Or (a :: b :: rest) pos) kt := fun σ H Q r g => by
  refine WW.of (pw_or WT.pt WW.pw) ?_
  show WT C.X a σ H _
  refine h σ H _ r fun b1 ρ1 H1 k1 r1 h1 => ?_
  cases b1 with
  | true => exact iteT (g true ρ1 H1 k1 r1 (h1.1 rfl))
  | false => exact iteF (h1.2 rfl σ H1 Q r1 fun b ρ2 H2 k2 r2 h2 => g b ρ2 H2 (k1.trans k2) r2 h2)
theorem dw_and1 (h : DT C ρ a kt) : DW C ρ (.BoolOp .And [a] pos) kt := fun σ H Q r g => WW.of (pw_and1 WT.pt) (h σ H Q r g)
theorem dw_or1 (h : DT C ρ a kt) : DW C ρ (.BoolOp .Or [a] pos) kt := fun σ H Q r g => WW.of (pw_or1 WT.pt) (h σ H Q r g)
/-! as values -/
theorem de_and (h : DE C ρ a fun x ρ1 => ∃ t, x = .dat (.bool t) ∧ (t = true → DE C ρ1 (.BoolOp .And (b :: rest) pos) k) ∧ (t = false → k (.dat (.bool false)) ρ1)) : DE C ρ (.BoolOp .And (a :: b :: rest) pos) k := fun σ H Q r g => by
  refine WE.of (pe_and WE.pe WE.pe) ?_
  show WE C.X a σ H _
  refine h σ H _ r fun v1 x ρ1 H1 k1 r1 o1 h1 => ?_
  obtain ⟨t, rfl, h2, h3⟩ := h1
  cases o1
  refine ⟨t, rfl, ?_⟩
  cases t with
  | true => exact iteT (h2 rfl σ H1 Q r1 fun v ev ρ2 H2 k2 r2 o2 hk => g v ev ρ2 H2 (k1.trans k2) r2 o2 hk)
  | false => exact iteF (g _ (.dat (.bool false)) ρ1 H1 k1 r1 (Rp.bl false) (h3 rfl))
theorem de_or (h : DE C ρ a fun x ρ1 => ∃ t, x = .dat (.bool t) ∧ (t = true → k (.dat (.bool true)) ρ1) ∧ (t = false → DE C ρ1 (.BoolOp .Or (b :: rest) pos) k)) : DE C ρ (.BoolOp .Or (a :: b :: rest) pos) k := fun σ H Q r g => by
  refine WE.of (pe_or WE.pe WE.pe) ?_
  show WE C.X a σ H _
  refine h σ H _ r fun v1 x ρ1 H1 k1 r1 o1 h1 => ?_
  obtain ⟨t, rfl, h2, h3⟩ := h1
  cases o1
  refine ⟨t, rfl, ?_⟩
  cases t with
  | true => exact iteT (g _ (.dat (.bool true)) ρ1 H1 k1 r1 (Rp.bl true) (h2 rfl))
  | false => exact iteF (h3 rfl σ H1 Q r1 fun v ev ρ2 H2 k2 r2 o2 hk => g v ev ρ2 H2 (k1.trans k2) r2 o2 hk)
theorem de_one {op} (h : DE C ρ a k) : DE C ρ (.BoolOp op [a] pos) k := fun σ H Q r g => WE.of (pe_one WE.pe) (h σ H Q r g)
theorem de_not (h : DE C ρ a fun x ρ1 => ∃ t, x = .dat (.bool t) ∧ k (.dat (.bool (!t))) ρ1) : DE C ρ (.UnaryOp .Not a pos) k := fun σ H Q r g => by
  refine WE.of (pe_not WE.pe) ?_
  show WE C.X a σ H _
  refine h σ H _ r fun v1 x ρ1 H1 k1 r1 o1 h1 => ?_
  obtain ⟨t, rfl, h2⟩ := h1
  cases o1
  exact ⟨t, rfl, g _ (.dat (.bool _)) ρ1 H1 k1 r1 (Rp.bl _) h2⟩
theorem de_if (h : DT C ρ c fun t ρ1 => (t = true → DE C ρ1 a k) ∧ (t = false → DE C ρ1 b k)) : DE C ρ (.IfExp c a b pos) k := fun σ H Q r g => by
  refine WE.of (pe_ifExp WT.pt WE.pe WE.pe) ?_
  show WT C.X c σ H _
  refine h σ H _ r fun t ρ1 H1 k1 r1 h1 => ?_
  cases t with
  | true => exact iteT (h1.1 rfl σ H1 Q r1 fun v ev ρ2 H2 k2 r2 o2 hk => g v ev ρ2 H2 (k1.trans k2) r2 o2 hk)
  | false => exact iteF (h1.2 rfl σ H1 Q r1 fun v ev ρ2 H2 k2 r2 o2 hk => g v ev ρ2 H2 (k1.trans k2) r2 o2 hk)
/-! chains a < b < c -/
theorem chain_core {op op' : CmpOp} {Q : VK} (r : C.Rs ρ σ H) (h : DE C ρ a fun x ρ1 => DE C ρ1 b fun y ρ2 => ∃ dx dy, DatOf ρ2 x dx ∧ y = .dat dy ∧ DOp C.X (compareOp op) dx dy fun d => ∃ t, d = .bool t ∧ (t = true → DE C ρ2 c fun z ρ3 => ∃ dz, DatOf ρ3 z dz ∧ DOp C.X (compareOp op') dy dz fun d => k (.dat d) ρ3) ∧ (t = false → k (.dat (.bool false)) ρ2))
    (g : ∀ v ev ρ' H', KT H H' → C.Rs ρ' σ H' → EvOk C.X.K H' σ v ev → k ev ρ' → Q v H') :
    tChain (fun x y H Q => ∀ pins s σ (v u : Value), Inv C.X pins σ H s → RelV x v → RelV y u → wpAny (model C.X.prog C.X.w) C.X.A (compareOp op v u) (EP C.X pins σ Q) C.X.xe s)
      (fun x y H Q => ∀ pins s σ (v u : Value), Inv C.X pins σ H s → RelV x v → RelV y u → wpAny (model C.X.prog C.X.w) C.X.A (compareOp op' v u) (EP C.X pins σ Q) C.X.xe s) (WE C.X a) (WE C.X b) (WE C.X c) σ H Q := by
  refine h σ H _ r fun v1 x ρ1 H1 k1 r1 o1 h1 => ?_
  refine h1 σ H1 _ r1 fun v2 y ρ2 H2 k2 r2 o2 h2 => ?_
  obtain ⟨dx, dy, hx, rfl, hop⟩ := h2
  intro pins s σ' u w I rx ry
  refine hop pins s σ' H2 v1 v2 u w _ I rx ry (hx.mp r2 (o1.kt k2)) (.rp o2) fun v d H3 ex rp hk => ?_
  obtain ⟨t, rfl, ht, hf⟩ := hk
  cases rp
  refine ⟨t, rfl, ?_⟩
  have k3 := (k1.trans k2).trans ex.kt
  cases t with
  | false => exact iteF (g _ (.dat (.bool false)) ρ2 H3 k3 (r2.ex ex) (Rp.bl false) (hf rfl))
  | true =>
    refine iteT ?_
    refine ht rfl σ H3 _ (r2.ex ex) fun v3 z ρ3 H4 k4 r4 o4 h4 => ?_
    obtain ⟨dz, hz, hop'⟩ := h4
    intro pins s σ' u w I rx ry
    refine hop' pins s σ' H4 v2 v3 u w _ I rx ry (.rp (Rp.kt (ex.kt.trans k4) o2)) (hz.mp r4 o4) fun v d H5 ex5 rp hk => ?_
    exact g v (.dat d) ρ3 H5 ((k3.trans k4).trans ex5.kt) (r4.ex ex5) rp hk
theorem opAny {X : Cx} (o : CmpOp) : OpR X (compareOp o) (fun x y H Q => ∀ pins s σ (v u : Value), Inv X pins σ H s → RelV x v → RelV y u → wpAny (model X.prog X.w) X.A (compareOp o v u) (EP X pins σ Q) X.xe s) :=
  fun pins s σ H x y v u Q I rx ry z => z pins s σ v u I rx ry
theorem de_chain {op op' : CmpOp} (h : DE C ρ a fun x ρ1 => DE C ρ1 b fun y ρ2 => ∃ dx dy, DatOf ρ2 x dx ∧ y = .dat dy ∧ DOp C.X (compareOp op) dx dy fun d => ∃ t, d = .bool t ∧ (t = true → DE C ρ2 c fun z ρ3 => ∃ dz, DatOf ρ3 z dz ∧ DOp C.X (compareOp op') dy dz fun d => k (.dat d) ρ3) ∧ (t = false → k (.dat (.bool false)) ρ2))
    (hm : lastMarks [op, op'] [b, c] = false := by with_unfolding_all rfl) : DE C ρ (.Compare a [op, op'] [b, c] pos) k := fun σ H Q r g =>
  WE.of (pe_chain (opAny op) (opAny op') WE.pe WE.pe WE.pe hm) (chain_core r h g)
theorem dt_chain {op op' : CmpOp} (h : DE C ρ a fun x ρ1 => DE C ρ1 b fun y ρ2 => ∃ dx dy, DatOf ρ2 x dx ∧ y = .dat dy ∧ DOp C.X (compareOp op) dx dy fun d => ∃ t, d = .bool t ∧ (t = true → DE C ρ2 c fun z ρ3 => ∃ dz, DatOf ρ3 z dz ∧ DOp C.X (compareOp op') dy dz fun d => ∃ t, d = .bool t ∧ kt t ρ3) ∧ (t = false → kt false ρ2))
    (hm : lastMarks [op, op'] [b, c] = false := by with_unfolding_all rfl) : DT C ρ (.Compare a [op, op'] [b, c] pos) kt := fun σ H Q r g => by
  refine WT.of (pt_chain (opAny op) (opAny op') WE.pe WE.pe WE.pe hm) ?_
  refine chain_core (k := fun ev ρ' => ∃ t, ev = .dat (.bool t) ∧ kt t ρ') r (h.mono fun x ρ1 h1 => h1.mono fun y ρ2 h2 => ?_) fun v ev ρ' H' k' r' o' hk => ?_
  · obtain ⟨dx, dy, hx, hy, hop⟩ := h2
    refine ⟨dx, dy, hx, hy, fun pins s σ H vx vy u w Q I rx ry mx my gg => hop pins s σ H vx vy u w Q I rx ry mx my fun v d H' ex rp hk => gg v d H' ex rp ?_⟩
    obtain ⟨t, e, h1, h2⟩ := hk
    refine ⟨t, e, fun ht => (h1 ht).mono fun z ρ3 h3 => ?_, fun hf => ⟨false, rfl, h2 hf⟩⟩
    obtain ⟨dz, hz, hop'⟩ := h3
    refine ⟨dz, hz, fun pins s σ H vx vy u w Q I rx ry mx my gg => hop' pins s σ H vx vy u w Q I rx ry mx my fun v d H' ex rp hk => gg v d H' ex rp ?_⟩
    obtain ⟨t, rfl, hk⟩ := hk
    exact ⟨t, rfl, hk⟩
  · obtain ⟨t, rfl, hk⟩ := hk
    cases o'
    exact ⟨t, rfl, g t ρ' H' k' r' hk⟩
end
end DW
namespace DW
open PySem L2
section
variable {C : DC} {ρ ρ' : Rho} {σ : St} {H H' : Hp} {e a b c : Expr} {es : List Expr} {pos p apos : Pos} {k : EV → Rho → Prop} {kd : PyData → Prop} {kl : List PyData → Rho → Prop} {ka : List EV → Rho → Prop}
theorem EvsOk.kt {K : PySem.W.Frag} (q : KT H H') : ∀ {vs : List V} {evs : List EV}, EvsOk K H σ vs evs → EvsOk K H' σ vs evs
  | _, _, .nil => .nil
  | _, _, .cons h t => .cons (h.kt q) (EvsOk.kt q t)
/-! ### arguments, displays -/
theorem da_nil (q : ka [] ρ) : DA C ρ [] ka := fun σ H Q r g => WA.of pa_nil (g [] [] ρ H (KT.refl H) r .nil q)
theorem da_cons (h : DE C ρ e fun ev ρ1 => DA C ρ1 es fun evs ρ2 => ka (ev :: evs) ρ2) (hs : starEach (e :: es) C.X.env = (false, eval e C.X.env) :: starEach es C.X.env := by rfl) : DA C ρ (e :: es) ka := fun σ H Q r g => by
  refine WA.of (pa_cons WE.pe WA.pa hs) ?_
  show WE C.X e σ H _
  refine h σ H _ r fun v ev ρ1 H1 k1 r1 o1 h1 => ?_
  refine h1 σ H1 _ r1 fun vs evs ρ2 H2 k2 r2 o2 h2 => ?_
  exact g _ _ ρ2 H2 (k1.trans k2) r2 (.cons (o1.kt k2) o2) h2
/-- all of them data that stays -/
inductive Dats : List EV → List PyData → Prop
  | nil : Dats [] []
  | cons {d : PyData} {evs : List EV} {ds : List PyData} : Dats evs ds → Dats (.dat d :: evs) (d :: ds)
theorem Dats.rpl {K : PySem.W.Frag} {evs : List EV} {ds : List PyData} (h : Dats evs ds) : ∀ {vs : List V}, EvsOk K H σ vs evs → RpL K H vs ds := by
  induction h with
  | nil => intro vs q; cases q; exact .nil
  | cons h ih =>
    intro vs q
    cases q with
    | cons q1 q2 => exact .cons q1 (ih q2)
theorem de_tup {x1} (h : DA C ρ es fun evs ρ1 => ∃ ds, Dats evs ds ∧ ds.length ≤ sizeLine ∧ k (.dat (.tuple ds)) ρ1) : DE C ρ (.Tuple es x1 pos) k := fun σ H Q r g => by
  refine WE.of (pe_tup WA.pa) ?_
  show WA C.X es σ H _
  refine h σ H _ r fun vs evs ρ1 H1 k1 r1 o1 h1 => ?_
  obtain ⟨ds, hd, hz, hk⟩ := h1
  have hl := hd.rpl o1
  refine ⟨by rw [hl.length]; exact hz, fun p np => ?_⟩
  have ex : Ex H1 (upd H1 p (.tup vs)) := Ex.new np
  exact g _ (.dat (.tuple ds)) ρ1 _ (k1.trans ex.kt) (r1.ex ex) (Rp.tup (SqT.of upd_same) (hl.kt ex.kt)) hk
theorem dl_lst (h : DA C ρ es fun evs ρ1 => ∃ ds, Dats evs ds ∧ ds.length ≤ sizeLine ∧ kl ds ρ1) : DL C ρ (.List es pos) kl := fun σ H Q r g => by
  refine WE.of (pe_lst WA.pa) ?_
  show WA C.X es σ H _
  refine h σ H _ r fun vs evs ρ1 H1 k1 r1 o1 h1 => ?_
  obtain ⟨ds, hd, hz, hk⟩ := h1
  have hl := hd.rpl o1
  refine ⟨by rw [hl.length]; exact hz, fun p np => ?_⟩
  have ex : Ex H1 (upd H1 p (.lst vs)) := Ex.new np
  exact g p vs ds ρ1 _ (k1.trans ex.kt) (r1.ex ex) (New.of_none r1 np) upd_same (hl.kt ex.kt) hk

/-! ### built-ins called by name -/
theorem de_callB {x : Str} {id : String} (hv : bootBuiltins x = some (.builtin id)) (hm : C.X.mg x = none) (hg : Gl C.X x) (h : DA C ρ (e :: es) fun evs ρ1 => ∃ ds, DatsOf ρ1 evs ds ∧ DCall C.X (.builtin id) ds fun d => k (.dat d) ρ1)
    (hn : x ≠ "__name__" := by decide) (hdb : (x == ("__debug__" : Str)) = false := by decide) (he : starEach (e :: es) C.X.env = (false, eval e C.X.env) :: starEach es C.X.env := by rfl) (hpl : (backTo pos (starEach es C.X.env)).any (·.1) = false := by rfl) :
    DE C ρ (.Call (.Name x p) (e :: es) [] pos) k := fun σ H Q r g => by
  have hc : CallR C.X (.builtin id) (fun xs H Q => ∀ pins s σ (us : List Value), Inv C.X pins σ H s → Vals xs us → wpAny (model C.X.prog C.X.w) C.X.A (call (.builtin id) us) (EP C.X pins σ Q) C.X.xe s) :=
    fun pins s σ H xs us Q I rv z => z pins s σ us I rv
  refine WE.of (pe_callB hc hg hm hv WA.pa hn hdb he hpl) ?_
  show WA C.X (e :: es) σ H _
  refine h σ H _ r fun vs evs ρ1 H1 k1 r1 o1 h1 => ?_
  obtain ⟨ds, hd, hop⟩ := h1
  intro pins s σ' us I rv
  exact hop pins s σ' H1 vs us Q I rv (hd.mp r1 o1) fun v d H' ex rp hk => g v (.dat d) ρ1 H' (k1.trans ex.kt) (r1.ex ex) rp hk
theorem de_callT {x : Str} {id : String} (hv : bootBuiltins x = some (.type id)) (hm : C.X.mg x = none) (hg : Gl C.X x) (h : DA C ρ (e :: es) fun evs ρ1 => ∃ ds, DatsOf ρ1 evs ds ∧ DCall C.X (.type id) ds fun d => k (.dat d) ρ1)
    (hn : x ≠ "__name__" := by decide) (hdb : (x == ("__debug__" : Str)) = false := by decide) (he : starEach (e :: es) C.X.env = (false, eval e C.X.env) :: starEach es C.X.env := by rfl) (hpl : (backTo pos (starEach es C.X.env)).any (·.1) = false := by rfl) :
    DE C ρ (.Call (.Name x p) (e :: es) [] pos) k := fun σ H Q r g => by
  have hc : CallR C.X (.type id) (fun xs H Q => ∀ pins s σ (us : List Value), Inv C.X pins σ H s → Vals xs us → wpAny (model C.X.prog C.X.w) C.X.A (call (.type id) us) (EP C.X pins σ Q) C.X.xe s) :=
    fun pins s σ H xs us Q I rv z => z pins s σ us I rv
  refine WE.of (pe_callTy hc hg hm hv WA.pa hn hdb he hpl) ?_
  show WA C.X (e :: es) σ H _
  refine h σ H _ r fun vs evs ρ1 H1 k1 r1 o1 h1 => ?_
  obtain ⟨ds, hd, hop⟩ := h1
  intro pins s σ' us I rv
  exact hop pins s σ' H1 vs us Q I rv (hd.mp r1 o1) fun v d H' ex rp hk => g v (.dat d) ρ1 H' (k1.trans ex.kt) (r1.ex ex) rp hk
theorem dl_callT {x : Str} {id : String} (hv : bootBuiltins x = some (.type id)) (hm : C.X.mg x = none) (hg : Gl C.X x) (h : DA C ρ (e :: es) fun evs ρ1 => ∃ ds, DatsOf ρ1 evs ds ∧ DCallL C.X (.type id) ds fun d => kl d ρ1)
    (hn : x ≠ "__name__" := by decide) (hdb : (x == ("__debug__" : Str)) = false := by decide) (he : starEach (e :: es) C.X.env = (false, eval e C.X.env) :: starEach es C.X.env := by rfl) (hpl : (backTo pos (starEach es C.X.env)).any (·.1) = false := by rfl) :
    DL C ρ (.Call (.Name x p) (e :: es) [] pos) kl := fun σ H Q r g => by
  have hc : CallR C.X (.type id) (fun xs H Q => ∀ pins s σ (us : List Value), Inv C.X pins σ H s → Vals xs us → wpAny (model C.X.prog C.X.w) C.X.A (call (.type id) us) (EP C.X pins σ Q) C.X.xe s) :=
    fun pins s σ H xs us Q I rv z => z pins s σ us I rv
  refine WE.of (pe_callTy hc hg hm hv WA.pa hn hdb he hpl) ?_
  show WA C.X (e :: es) σ H _
  refine h σ H _ r fun vs evs ρ1 H1 k1 r1 o1 h1 => ?_
  obtain ⟨ds, hd, hop⟩ := h1
  intro pins s σ' us I rv
  exact hop pins s σ' H1 vs us Q I rv (hd.mp r1 o1) fun p vs ds H' np ex hp rp hk => g p vs ds ρ1 H' (k1.trans ex.kt) (r1.ex ex) (by
    have n := New.of_none r1 np
    exact n) hp rp hk

theorem MpL.one {K : PySem.W.Frag} {vs : List V} {d : PyData} (h : MpL K H vs [d]) : ∃ v, vs = [v] ∧ Mp K H v d := by
  cases h with
  | cons h t => cases t; exact ⟨_, rfl, h⟩
theorem MpL.two {K : PySem.W.Frag} {vs : List V} {d d' : PyData} (h : MpL K H vs [d, d']) : ∃ v v', vs = [v, v'] ∧ Mp K H v d ∧ Mp K H v' d' := by
  cases h with
  | cons h t =>
    cases t with
    | cons h' t => cases t; exact ⟨_, _, rfl, h, h'⟩
theorem DCall.of {f : Value} {r : List V → Hp → VK → Prop} {xs : List PyData} (ho : CallR C.X f r)
    (h : ∀ H (vs : List V) (Q : VK), MpL C.X.K H vs xs → (∀ v d H', Ex H H' → Rp C.X.K H' v d → kd d → Q v H') → r vs H Q) : DCall C.X f xs kd :=
  fun pins s σ H vs us Q I rv mv g => ho pins s σ H vs us Q I rv (h H vs Q mv g)
theorem dc_len {d : PyData} {n : Nat} (q : kd (.int n)) (h : match d with | .str z => z.length = n ∧ n ≤ sizeLine | .list ds => ds.length = n | .tuple ds => ds.length = n | _ => False) : DCall C.X (.builtin "len") [d] kd :=
  DCall.of call_len fun H vs Q mv g => by
    obtain ⟨v, rfl, mu⟩ := mv.one
    cases d with
    | str z =>
      cases mu.str
      refine ⟨_, n, rfl, ?_, g _ _ H (Ex.refl H) (.int _) q⟩
      exact ⟨by rw [h.1]; exact h.2, h.1.symm⟩
    | list ds =>
      obtain ⟨l, ws, rfl, h1, h2⟩ := mu.lst
      exact ⟨_, n, rfl, .inl ⟨ws, h1, by rw [h2.length]; exact h.symm⟩, g _ _ H (Ex.refl H) (.int _) q⟩
    | tuple ds =>
      obtain ⟨l, ws, rfl, h1, h2⟩ := mu.tup
      exact ⟨_, n, rfl, .inr ⟨ws, h1, by rw [h2.length]; exact h.symm⟩, g _ _ H (Ex.refl H) (.int _) q⟩
    | none => exact h.elim
    | bool _ => exact h.elim
    | int _ => exact h.elim
    | dict _ => exact h.elim
theorem dc_abs {i : Int} (q : kd (.int (if i < 0 then -i else i))) : DCall C.X (.builtin "abs") [.int i] kd := DCall.of call_abs fun H vs Q mv g => by
  obtain ⟨v, rfl, mu⟩ := mv.one
  cases mu.int
  exact ⟨i, rfl, g _ _ H (Ex.refl H) (.int _) q⟩
theorem dc_min2 {i j : Int} (hc : C.X.calm = true) (q : kd (.int (if j < i then j else i))) : DCall C.X (.builtin "min") [.int i, .int j] kd := DCall.of (call_min2 hc) fun H vs Q mv g => by
  obtain ⟨v, v', rfl, mu, mu'⟩ := mv.two
  cases mu.int
  cases mu'.int
  exact ⟨i, j, rfl, g _ _ H (Ex.refl H) (.int _) q⟩
theorem dc_max2 {i j : Int} (hc : C.X.calm = true) (q : kd (.int (if j > i then j else i))) : DCall C.X (.builtin "max") [.int i, .int j] kd := DCall.of (call_max2 hc) fun H vs Q mv g => by
  obtain ⟨v, v', rfl, mu, mu'⟩ := mv.two
  cases mu.int
  cases mu'.int
  exact ⟨i, j, rfl, g _ _ H (Ex.refl H) (.int _) q⟩
theorem dc_intB {b : Bool} (q : kd (.int (if b then 1 else 0))) : DCall C.X (.type "int") [.bool b] kd := DCall.of call_int1 fun H vs Q mv g => by
  obtain ⟨v, rfl, mu⟩ := mv.one
  cases mu.bl
  exact .inr ⟨b, rfl, g _ _ H (Ex.refl H) (.int _) q⟩
theorem dc_tupL {ds : List PyData} (q : kd (.tuple ds)) : DCall C.X (.type "tuple") [.list ds] kd := DCall.of call_tuple_of fun H vs Q mv g => by
  obtain ⟨v, rfl, mu⟩ := mv.one
  obtain ⟨l, ws, rfl, h1, h2⟩ := mu.lst
  refine ⟨l, ws, rfl, .inl ⟨h1, fun p np => ?_⟩⟩
  have ex : Ex H (upd H p (.tup ws)) := Ex.new np
  exact g _ _ _ ex (Rp.tup (SqT.of upd_same) (h2.kt ex.kt)) q
theorem dc_tupT {ds : List PyData} (q : kd (.tuple ds)) : DCall C.X (.type "tuple") [.tuple ds] kd := DCall.of call_tuple_of fun H vs Q mv g => by
  obtain ⟨v, rfl, mu⟩ := mv.one
  obtain ⟨l, ws, rfl, h1, h2⟩ := mu.tup
  exact ⟨l, ws, rfl, .inr ⟨h1, g _ _ H (Ex.refl H) (Rp.tup h1 h2) q⟩⟩
theorem dcl_list {d : PyData} {ds : List PyData} {kd : List PyData → Prop} (q : kd ds) (h : d = .list ds ∨ d = .tuple ds) : DCallL C.X (.type "list") [d] kd := fun pins s σ H vs us Q I rv mv g => by
  obtain ⟨v, rfl, mu⟩ := mv.one
  obtain ⟨l, ws, rfl, h1, h2⟩ : ∃ l ws, v = .ref l ∧ (SqL C.X.K H l ws ∨ SqT C.X.K H l ws) ∧ RpL C.X.K H ws ds := by
    rcases h with rfl | rfl
    · obtain ⟨l, ws, rfl, h1, h2⟩ := mu.lst
      exact ⟨l, ws, rfl, .inl h1, h2⟩
    · obtain ⟨l, ws, rfl, h1, h2⟩ := mu.tup
      exact ⟨l, ws, rfl, .inr h1, h2⟩
  refine call_list_of pins s σ H _ us Q I rv ⟨l, ws, rfl, h1, fun p np => ?_⟩
  have ex : Ex H (upd H p (.lst ws)) := Ex.new np
  exact g p ws ds _ np ex upd_same (h2.kt ex.kt) q
/-- sums, all, any, greatest ones over a list -/
theorem dc_sum {ns : List Int} (hc : C.X.calm = true) (q : kd (.int ns.sum)) : DCall C.X (.builtin "sum") [.list (ns.map .int)] kd := DCall.of (cr_sum hc) fun H vs Q mv g => by
  obtain ⟨v, rfl, mu⟩ := mv.one
  obtain ⟨l, ws, rfl, h1, h2⟩ := mu.lst
  rw [h2.ints] at h1
  exact ⟨l, ns, rfl, h1, g _ _ H (Ex.refl H) (.int _) q⟩
theorem RpL.bools {K : PySem.W.Frag} : ∀ {vs : List V} {bs : List Bool}, RpL K H vs (bs.map .bool) → vs = bs.map V.bl
  | _, [], h => by cases h; rfl
  | _, n :: ns, h => by
    cases h with
    | cons h q =>
      cases h
      rw [RpL.bools q]
      rfl
theorem dc_all {bs : List Bool} (hc : C.X.calm = true) (q : kd (.bool (bs.all id))) : DCall C.X (.builtin "all") [.list (bs.map .bool)] kd := DCall.of (cr_all hc) fun H vs Q mv g => by
  obtain ⟨v, rfl, mu⟩ := mv.one
  obtain ⟨l, ws, rfl, h1, h2⟩ := mu.lst
  rw [h2.bools] at h1
  exact ⟨l, bs, rfl, h1, g _ _ H (Ex.refl H) (.bl _) q⟩
theorem dc_any {bs : List Bool} (hc : C.X.calm = true) (q : kd (.bool (bs.any id))) : DCall C.X (.builtin "any") [.list (bs.map .bool)] kd := DCall.of (cr_any hc) fun H vs Q mv g => by
  obtain ⟨v, rfl, mu⟩ := mv.one
  obtain ⟨l, ws, rfl, h1, h2⟩ := mu.lst
  rw [h2.bools] at h1
  exact ⟨l, bs, rfl, h1, g _ _ H (Ex.refl H) (.bl _) q⟩
theorem dc_max {ns : List Int} (hc : C.X.calm = true) (hn : 0 < ns.length) (q : ∀ m, m ∈ ns → (∀ n ∈ ns, n ≤ m) → kd (.int m)) : DCall C.X (.builtin "max") [.list (ns.map .int)] kd := DCall.of (cr_max hc) fun H vs Q mv g => by
  obtain ⟨v, rfl, mu⟩ := mv.one
  obtain ⟨l, ws, rfl, h1, h2⟩ := mu.lst
  rw [h2.ints] at h1
  exact ⟨l, ns, rfl, h1, hn, fun m hm hle => g _ _ H (Ex.refl H) (.int _) (q m hm hle)⟩

/-! ### isinstance -/
def tyName : PyData → String
  | .none => "NoneType"
  | .bool _ => "bool"
  | .int _ => "int"
  | .str _ => "str"
  | .list _ => "list"
  | .tuple _ => "tuple"
  | .dict _ => "dict"
theorem mp_ty {K : PySem.W.Frag} {v : V} {d : PyData} (h : Mp K H v d) : TyX K H v (.type (tyName d)) := by
  cases h with
  | own h q => exact .base (.lst h)
  | rp h =>
    cases h with
    | non => exact .base .non
    | bl b => exact .base (.bl b)
    | int i => exact .base (.int i)
    | str x => exact .base (.str x)
    | tup h q =>
      rcases h with (h | ⟨o, h⟩) | ⟨o, its, n, h1, h2, _⟩
      · exact .base (.tup h)
      · exact .fTuple h
      · exact .kTuple h1 h2
    | lst h q =>
      obtain ⟨o, h⟩ := h
      exact .base (.frz h)
    | dic h => exact .fDict h
theorem de_isi {x : Expr} {p2 : Pos} {T : Str} {tn : String} (hm : C.X.mg "isinstance" = none) (hmT : C.X.mg T = none) (hg : Gl C.X "isinstance") (hgT : Gl C.X T) (hvT : bootBuiltins T = some (.type tn))
    (h : DE C ρ x fun ev ρ1 => ∃ d b, DatOf ρ1 ev d ∧ kitB (tyName d) tn = some b ∧ k (.dat (.bool b)) ρ1)
    (hnT : T ≠ "__name__" := by decide) (hdT : (T == ("__debug__" : Str)) = false := by decide)
    (he : starEach [x, .Name T p2] C.X.env = (false, eval x C.X.env) :: starEach [.Name T p2] C.X.env := by rfl) (he2 : starEach [.Name T p2] C.X.env = (false, eval (.Name T p2) C.X.env) :: starEach [] C.X.env := by rfl) (hpl : (backTo pos (starEach [.Name T p2] C.X.env)).any (·.1) = false := by rfl) :
    DE C ρ (.Call (.Name "isinstance" p) [x, .Name T p2] [] pos) k := fun σ H Q r g => by
  refine WE.of (pe_callB call_isi hg hm (by decide +kernel) (pa_cons WE.pe (pa_cons (pe_bltn (v := .ty tn) hgT hmT hvT rfl hnT hdT) pa_nil he2) he) (by decide) (by decide) he hpl) ?_
  show WE C.X x σ H _
  refine h σ H _ r fun v ev ρ1 H1 k1 r1 o1 h1 => ?_
  obtain ⟨d, b, hd, hb, hk⟩ := h1
  exact ⟨v, .ty tn, .type (tyName d), .type tn, b, rfl, .ty tn, mp_ty (hd.mp r1 o1), kit_ty hb, g _ (.dat (.bool b)) ρ1 H1 k1 r1 (Rp.bl b) hk⟩
end
end DW
namespace DW
open PySem L2

/-! ### defs -/
inductive AV where
  | dat (d : PyData) | drw | scr (ns : List Int)
def AV.sv : AV → SV
  | .dat d => .dat d
  | .drw => .drw
  | .scr ns => .scr ns
abbrev RV.data : RV → PyData
  | .dat d => d
  | .lst ds => .list ds
/-- what a def is worth over data -/
abbrev FS := List AV → (RV → Prop) → Prop
inductive ArgsOk (K : PySem.W.Frag) (H : Hp) (dr : Option Addr) : List V → List AV → Prop
  | nil : ArgsOk K H dr [] []
  | dat {v : V} {d : PyData} {vs : List V} {avs : List AV} : Rp K H v d → ArgsOk K H dr vs avs → ArgsOk K H dr (v :: vs) (.dat d :: avs)
  | drw {a : Addr} {vs : List V} {avs : List AV} : dr = some a → ArgsOk K H dr vs avs → ArgsOk K H dr (.ref a :: vs) (.drw :: avs)
  | scr {a : Addr} {ns : List Int} {vs : List V} {avs : List AV} : SqS K H a (ns.map V.int) → ArgsOk K H dr vs avs → ArgsOk K H dr (.ref a :: vs) (.scr ns :: avs)
theorem ArgsOk.length {K : PySem.W.Frag} {H : Hp} {dr : Option Addr} : ∀ {vs : List V} {avs : List AV}, ArgsOk K H dr vs avs → vs.length = avs.length
  | _, _, .nil => rfl
  | _, _, .dat _ t => by rw [List.length_cons, List.length_cons, t.length]
  | _, _, .drw _ t => by rw [List.length_cons, List.length_cons, t.length]
  | _, _, .scr _ t => by rw [List.length_cons, List.length_cons, t.length]
def spOf (K : PySem.W.Frag) (fs : FS) : Sp := fun vs H Q _ => ∃ (dr : Option Addr) (avs : List AV) (R : RV → Prop), (∀ a, dr = some a → Drawn H a) ∧ ArgsOk K H dr vs avs ∧ fs avs R ∧
  ∀ v rv H', Fr H dr H' → RvOk K H dr H' v rv → R rv → Q v H'
/-- the context of a def's body -/
abbrev fcx (P : Program) (w : World) (K : PySem.W.Frag) (mg : Str → Option Value) (base : Heap) (N : List Str) (qual : Str) (st : Stmt) (f : Addr) (cdv : Value) (A : Around) (outer : List Env) (s : Shared) (H : Hp) (E : XK) : Cx :=
  (cxOf CX0 P w K mg base N qual (defScope st) f cdv A outer s H E).nox
theorem args_slot {K : PySem.W.Frag} {H : Hp} {dr : Option Addr} : ∀ {vs : List V} {avs : List AV} {i : Nat} {sv : SV}, ArgsOk K H dr vs avs → (avs.map AV.sv)[i]? = some sv → ∃ v, vs[i]? = some v ∧ SlotOk K H dr H (some v) sv ∧ sv.isOwn = false
  | _, _, i, _, .nil, h => by simp at h
  | _, _, 0, _, .dat (v := v) r _, h => by
    simp at h
    subst h
    exact ⟨v, rfl, ⟨v, rfl, r⟩, rfl⟩
  | _, _, 0, _, .drw (a := a) r _, h => by
    simp at h
    subst h
    exact ⟨_, rfl, ⟨a, r, rfl⟩, rfl⟩
  | _, _, 0, _, .scr (a := a) r _, h => by
    simp at h
    subst h
    exact ⟨_, rfl, ⟨a, rfl, r⟩, rfl⟩
  | _, _, i + 1, sv, .scr _ t, h => by
    obtain ⟨v, h1, h2⟩ := args_slot (i := i) t (by simpa using h)
    exact ⟨v, by simpa using h1, h2⟩
  | _, _, i + 1, sv, .dat _ t, h => by
    obtain ⟨v, h1, h2⟩ := args_slot (i := i) t (by simpa using h)
    exact ⟨v, by simpa using h1, h2⟩
  | _, _, i + 1, sv, .drw _ t, h => by
    obtain ⟨v, h1, h2⟩ := args_slot (i := i) t (by simpa using h)
    exact ⟨v, by simpa using h1, h2⟩
theorem rs_start {K : PySem.W.Frag} {H : Hp} {dr : Option Addr} {N ps : List Str} {vs : List V} {avs : List AV} (hd : ∀ a, dr = some a → Drawn H a) (ha : ArgsOk K H dr vs avs) (hl : avs.length = ps.length) (hN : ps.length ≤ N.length) :
    Rs K H dr (avs.map AV.sv ++ List.replicate (N.length - ps.length) .no) (start N vs) H := by
  have hv := ha.length
  refine ⟨⟨fun _ _ h _ => h, KT.refl H, hd⟩, ?_, fun i sv h => ?_, fun i j si sj l hi hj oi oj => ?_⟩
  · unfold L2.start
    rw [List.length_append, List.length_append, List.length_map, List.length_map, List.length_replicate, List.length_replicate, hv, hl]
  · by_cases hi : i < avs.length
    · rw [List.getElem?_append_left (by rw [List.length_map]; exact hi)] at h
      obtain ⟨v, h1, h2, _⟩ := args_slot ha h
      have e : (start N vs)[i]? = some (some v) := by
        unfold L2.start
        rw [List.getElem?_append_left (by rw [List.length_map, hv]; exact hi), List.getElem?_map, h1]
        rfl
      rw [e]
      exact h2
    · rw [List.getElem?_append_right (by rw [List.length_map]; omega), List.getElem?_replicate] at h
      split at h
      · cases h
        exact True.intro
      · cases h
  · exfalso
    have hi' : si.isOwn = false := by
      by_cases hz : i < avs.length
      · rw [List.getElem?_append_left (by rw [List.length_map]; exact hz)] at hi
        obtain ⟨_, _, _, q⟩ := args_slot ha hi
        exact q
      · rw [List.getElem?_append_right (by rw [List.length_map]; omega), List.getElem?_replicate] at hi
        split at hi
        · cases hi; rfl
        · cases hi
    rw [hi'] at oi
    cases oi
/-- a def's promise, where no guard of a repr stands around -/
structure FnG (P : Program) (w : World) (K : PySem.W.Frag) (mg : Str → Option Value) (base : Heap) (k : Nat) (f : Addr) (fd : FuncData) (ps : List Str) (sp : Sp) : Prop where
  len : ∀ vs H Q E, sp vs H Q E → vs.length = ps.length
  run : ∀ (A : Around) (outer : List Env) (s : Shared) (H : Hp) (args : Args) (us : List Value) (vs : List V) (Q : VK) (E : XK), Room k A → A.guards = some [] →
    Env0 P w K mg base A outer s H → BindsTo s fd args (ps.zip us) → Vals vs us → sp vs H Q E →
    codeAny (model P w) A (.call (.ref f) args) (CR CX0 outer P w H s Q E) s
theorem FnG.mono {P : Program} {w : World} {K : PySem.W.Frag} {mg : Str → Option Value} {base : Heap} {j k : Nat} {f : Addr} {fd : FuncData} {ps : List Str} {sp : Sp} (F : FnG P w K mg base j f fd ps sp) (h : j ≤ k) : FnG P w K mg base k f fd ps sp :=
  ⟨F.len, fun A outer s H args us vs Q E hr => F.run A outer s H args us vs Q E (hr.mono h)⟩
theorem fnG_of {P : Program} {w : World} {K : PySem.W.Frag} {mg : Str → Option Value} {base : Heap} {x qual : Str} {st : Stmt} {f : Addr} {fd : FuncData} {N ps : List Str} {k : Nat} {sp : Sp} (F : Fun K x qual st f fd) (S : FnScope N ps (defScope st))
    (len : ∀ vs H Q E, sp vs H Q E → vs.length = ps.length)
    (hbody : ∀ (cdv : Value) (A : Around) (outer : List Env) (s : Shared) (H : Hp) (vs : List V) (Q : VK) (E : XK), Room k (A.deeper (PyProof.Rows.envOfC qual (defScope st) s.heap.objs.size f cdv)) → A.guards = some [] → sp vs H Q E →
      WB (fcx P w K mg base N qual st f cdv A outer s H E) (defBody st) { nx := fun _ H' => Q .non H', rt := Q } (L2.start N vs) H) : FnG P w K mg base (k + 1) f fd ps sp := by
  obtain ⟨oc, od, kV, doc, pm, an, cdv, ct, osl, rfl, lk, hcd⟩ := F.ex
  refine ⟨len, ?_⟩
  intro A outer s H args us vs Q E hr hgd e0 hb r hsp
  have hl := len vs H Q E hsp
  have kin : K.In s.heap := e0.mod.kin.keeps fun b o e => (e0.bs b o e).1
  have nolim : s.heap.NoLimit := e0.mod.nolimit.keeps fun b o e => (e0.bs b o e).1
  have hk : ∀ y ∈ ps.zip us, (defScope st).names.lookup y.1 = some .local ∨ ((defScope st).names.lookup y.1 = some .cell ∧ ((cellsFrom (s.heap.objs.size + 1) (defScope st).names []).lookup y.1).isSome = true) := by
    rintro ⟨n, v⟩ hy
    have hp := S.par n (List.of_mem_zip hy).1
    exact hp.imp id fun q => ⟨q, PySem.W.cellsFrom_some _ _ _ (.inl q)⟩
  refine codeAny_call_function hr.depth (kin _ _ lk) rfl S.co S.gen rfl (PySem.W.codeRec_of kin hcd) (hb _ _ _ _ ?_)
  refine wpAny_newFunctionEnv_cells S.kind hk fun env he s1 x => ?_
  subst he
  refine ⟨nolim.keeps x.toInCall.keep, codeAny_func ?_⟩
  have ht : PSs (cxOf CX0 P w K mg base N qual (defScope st) f cdv A outer s H E) (defBody st) (WB (fcx P w K mg base N qual st f cdv A outer s H E) (defBody st)) := PSs.nox WB.pss
  have I : Inv (cxOf CX0 P w K mg base N qual (defScope st) f cdv A outer s H E) [] (L2.start N vs) H s1 := inv_start S hr.hd e0 hl r x
  refine wpAny_mono (ht.run [] s1 (L2.start N vs) H _ I (hbody cdv A outer s H vs Q E (hr.deeper _) hgd hsp)) ?_ fun e s' hs => hs
  intro fl s' hs
  have fin : ∀ {τ : St} {H' : Hp} {v : V} {u : Value}, Inv (cxOf CX0 P w K mg base N qual (defScope st) f cdv A outer s H E) [] τ H' s' → RelV v u → Q v H' → CE outer P w H s Q u s' := by
    intro τ H' v u J rv q
    exact ⟨v, H', J.os, J.bare, J.base, J.hok, rv, q⟩
  match fl, hs with
  | .ret u, hs =>
    obtain ⟨v, τ, H', J, rv, q⟩ := hs
    exact fin J rv q
  | .next, hs =>
    obtain ⟨τ, H', J, q⟩ := hs
    exact fin (v := V.non) (u := Value.none) J rfl q
  | .brk, hs =>
    obtain ⟨_, _, _, q⟩ := hs
    exact q.elim
  | .cont, hs =>
    obtain ⟨_, _, _, q⟩ := hs
    exact q.elim
theorem fn_ok {P : Program} {w : World} {K : PySem.W.Frag} {mg : Str → Option Value} {base : Heap} {x qual : Str} {st : Stmt} {f : Addr} {fd : FuncData} {N ps : List Str} {k : Nat} {fs : FS} (F : Fun K x qual st f fd) (S : FnScope N ps (defScope st))
    (hl : ∀ avs R, fs avs R → avs.length = ps.length)
    (hb : ∀ (cdv : Value) (A : Around) (outer : List Env) (s : Shared) (H : Hp) (E : XK) (dr : Option Addr) (avs : List AV) (R : RV → Prop), Room k (A.deeper (PyProof.Rows.envOfC qual (defScope st) s.heap.objs.size f cdv)) → A.guards = some [] → fs avs R →
      DB ⟨fcx P w K mg base N qual st f cdv A outer s H E, H, dr⟩ (avs.map AV.sv ++ List.replicate (N.length - ps.length) .no) (defBody st) (fun _ => R (.dat .none)) R (fun _ => False) (fun _ => False)) :
    FnG P w K mg base (k + 1) f fd ps (spOf K fs) := by
  have hN : ps.length ≤ N.length := by
    have := congrArg List.length S.pre
    rw [List.length_take] at this
    omega
  refine fnG_of F S (fun vs H Q E h => ?_) (fun cdv A outer s H vs Q E hr hgd h => ?_)
  · obtain ⟨dr, avs, R, _, ha, hf, _⟩ := h
    rw [ha.length]
    exact hl _ _ hf
  · obtain ⟨dr, avs, R, hd, ha, hf, hq⟩ := h
    refine hb cdv A outer s H E dr avs R hr hgd hf (L2.start N vs) H _ (rs_start hd ha (hl _ _ hf) hN) ⟨fun ρ σ H' _ r q => ?_, fun v rv H' _ fr rv' q => ?_, fun _ _ _ _ _ z => z.elim, fun _ _ _ _ _ z => z.elim⟩
    · exact hq .non (.dat .none) H' r.fr (show RvOk K H dr H' .non (.dat .none) from Rp.non) q
    · exact hq v rv H' fr rv' q

/-- a def that may be called here -/
structure Cal (X : Cx) (x : Str) (fs : FS) : Prop where
  ex : ∃ (k : Nat) (f : Addr) (fd : FuncData) (ps : List Str), FnG X.prog X.w X.K X.mg X.base k f fd ps (spOf X.K fs) ∧ Room k X.A ∧ X.A.guards = some [] ∧ X.mg x = some (.ref f) ∧ PySem.W.keepIn X.K (.ref f) = true ∧ Binds X.K fd ps []
section
variable {C : DC} {ρ ρ' : Rho} {σ : St} {H H' : Hp} {e a b c : Expr} {es : List Expr} {pos p apos : Pos} {k : EV → Rho → Prop} {kd : PyData → Prop} {kl : List PyData → Rho → Prop}
/-- the arguments of a call -/
inductive AvsOf (ρ : Rho) : List EV → List AV → Prop
  | nil : AvsOf ρ [] []
  | dat {d : PyData} {evs : List EV} {avs : List AV} : AvsOf ρ evs avs → AvsOf ρ (.dat d :: evs) (.dat d :: avs)
  | drw {i : Nat} {evs : List EV} {avs : List AV} : ρ[i]? = some .drw → AvsOf ρ evs avs → AvsOf ρ (.ali i :: evs) (.drw :: avs)
  | scr {i : Nat} {ns : List Int} {evs : List EV} {avs : List AV} : ρ[i]? = some (.scr ns) → AvsOf ρ evs avs → AvsOf ρ (.ali i :: evs) (.scr ns :: avs)
theorem Rs.scr {i : Nat} {ns : List Int} (r : C.Rs ρ σ H) (h : ρ[i]? = some (.scr ns)) : ∃ a, σ[i]? = some (some (.ref a)) ∧ SqS C.X.K H a (ns.map V.int) := by
  obtain ⟨o, ho⟩ := Rs.at r h
  obtain ⟨a, h1, h2⟩ := r.sl i _ h
  rw [ho] at h1
  exact ⟨a, by rw [ho, show o = some (.ref a) from h1], h2⟩
theorem AvsOf.args {evs : List EV} {avs : List AV} (h : AvsOf ρ evs avs) (r : C.Rs ρ σ H) : ∀ {vs : List V}, EvsOk C.X.K H σ vs evs → ArgsOk C.X.K H C.dr vs avs := by
  induction h with
  | nil => intro vs q; cases q; exact .nil
  | dat _ ih =>
    intro vs q
    cases q with
    | cons q1 q2 => exact .dat q1 (ih q2)
  | drw h _ ih =>
    intro vs q
    cases q with
    | cons q1 q2 =>
      obtain ⟨a, h1, h2⟩ := Rs.drw r h
      have e := (show σ[_]? = some (some _) from q1).symm.trans h1
      cases e
      exact .drw h2 (ih q2)
  | scr h _ ih =>
    intro vs q
    cases q with
    | cons q1 q2 =>
      obtain ⟨a, h1, h2⟩ := Rs.scr r h
      have e := (show σ[_]? = some (some _) from q1).symm.trans h1
      cases e
      exact .scr h2 (ih q2)
theorem rs_call (r : C.Rs ρ σ H) (f : Fr H C.dr H') : C.Rs ρ σ H' := by
  refine ⟨⟨fun b o h n => f.ext b o (r.fr.ext b o h n) n, r.fr.kt.trans f.kt, f.drw⟩, r.len, fun i sv h => ?_, r.sep⟩
  have hs := r.sl i sv h
  cases sv with
  | no => exact True.intro
  | dat d =>
    obtain ⟨x, h1, h2⟩ := hs
    exact ⟨x, h1, h2.kt f.kt⟩
  | own ds =>
    obtain ⟨l, h1, h2, h3, vs, h4, h5⟩ := hs
    exact ⟨l, h1, h2, h3, vs, f.ext l _ h4 h3, h5.kt f.kt⟩
  | dic ds =>
    obtain ⟨l, h1, h2, h3, vs, h4, h5⟩ := hs
    exact ⟨l, h1, h2, h3, vs, f.ext l _ h4 h3, h5.kt f.kt⟩
  | drw => exact hs
  | scr ns =>
    obtain ⟨a, h1, h2⟩ := hs
    exact ⟨a, h1, h2.kt f.kt⟩
theorem run_fnG {X : Cx} {kk : Nat} {f : Addr} {fd : FuncData} {ps : List Str} {sp : Sp} {pins : List (Addr × Obj)} {s : Shared} {Q : VK} {us : List Value} {vs : List V} (F : FnG X.prog X.w X.K X.mg X.base kk f fd ps sp) (hr : Room kk X.A) (hgd : X.A.guards = some [])
    (hb : Binds X.K fd ps []) (I : Inv X pins σ H s) (r : Vals vs us) (h : sp vs H Q E0) : wpAny (model X.prog X.w) X.A (call (.ref f) us) (EP X pins σ Q) X.xe s := by
  have hl : (us ++ []).length = ps.length := by rw [List.append_nil, ← r.length]; exact F.len _ _ _ _ h
  have hbb := hb s us I.kIn hl
  rw [List.append_nil] at hbb
  refine wpAny_call (codeAny_mono (F.run X.A X.stack s H ⟨us, []⟩ us vs Q E0 hr hgd I.env0 hbb r h) ?_)
  intro rs s' hq
  match rs, hq with
  | .error e, hq => exact hq.elim
  | .ok (.ret u), hq => exact I.after hq
  | .ok .next, hq => exact hq.elim
  | .ok .brk, hq => exact hq.elim
  | .ok .cont, hq => exact hq.elim
theorem pe_callG {X : Cx} {kk : Nat} {f : Addr} {fd : FuncData} {ps : List Str} {sp : Sp} {x : Str} {t : TA} (F : FnG X.prog X.w X.K X.mg X.base kk f fd ps sp) (hr : Room kk X.A) (hgd : X.A.guards = some []) (hg : Gl X x) (hm : X.mg x = some (.ref f))
    (hk : PySem.W.keepIn X.K (.ref f) = true) (hb : Binds X.K fd ps []) (ha : PA X (e :: es) t) (hdb : (x == ("__debug__" : Str)) = false)
    (he : starEach (e :: es) X.env = (false, eval e X.env) :: starEach es X.env) (hpl : (backTo pos (starEach es X.env)).any (·.1) = false) :
    PE X (.Call (.Name x p) (e :: es) [] pos) (fun σ H Q => t σ H fun vs H1 => sp vs H1 Q E0) := by
  constructor
  intro pins s σ H Q I h
  refine wpAny_Call_Name_kw (ld_glob I hg hm ?_ hdb)
  refine PySem.W.callWith_K (h₀ := X.base) I.ok.mod.kin hk (thn (ha.run pos pins s σ H _ I h) ?_) he hpl
  rintro us s1 ⟨vs, H1, I1, r, q⟩
  exact ⟨I1.kIn, run_fnG F hr hgd hb I1 r q⟩
/-- a call, whatever it gives -/
theorem call_core {x : Str} {fs : FS} {Q : VK} (F : Cal C.X x fs) (hg : Gl C.X x) (r : C.Rs ρ σ H) (h : DA C ρ (e :: es) fun evs ρ1 => ∃ avs R, AvsOf ρ1 evs avs ∧ fs avs R ∧ ∀ v rv H2, KT H H2 → C.Rs ρ1 σ H2 → (∀ p vs, rv = .lst vs → v = .ref p → New C.H0 C.dr ρ1 σ p) → RvOk C.X.K (fun _ => none) none H2 v rv → R rv → Q v H2)
    (hdb : (x == ("__debug__" : Str)) = false := by decide) (he : starEach (e :: es) C.X.env = (false, eval e C.X.env) :: starEach es C.X.env := by rfl) (hpl : (backTo pos (starEach es C.X.env)).any (·.1) = false := by rfl) :
    WE C.X (.Call (.Name x p) (e :: es) [] pos) σ H Q := by
  obtain ⟨kk, f, fd, ps, F, hr, hgd, hm, hk, hb⟩ := F.ex
  refine WE.of (pe_callG F hr hgd hg hm hk hb WA.pa hdb he hpl) ?_
  show WA C.X (e :: es) σ H _
  refine h σ H _ r fun vs evs ρ1 H1 k1 r1 o1 h1 => ?_
  obtain ⟨avs, R, ha, hf, hq⟩ := h1
  refine ⟨C.dr, avs, R, r1.fr.drw, ha.args r1 o1, hf, fun v rv H2 fr ok hR => ?_⟩
  have r2 := rs_call r1 fr
  have hnew : ∀ p, H1 p = none → New C.H0 C.dr ρ1 σ p := fun p np => New.of_none r1 np
  refine hq v rv H2 (k1.trans fr.kt) r2 (fun p vs hrv hv => ?_) ?_ hR
  · subst hrv
    obtain ⟨p', vs', e1, e2, _⟩ := ok
    rw [hv] at e1
    cases e1
    exact hnew p e2
  · cases rv with
    | dat d => exact ok
    | lst ds =>
      obtain ⟨p', vs', e1, e2, _, e3, e4⟩ := ok
      exact ⟨p', vs', e1, rfl, (fun z => nomatch z), e3, e4⟩
theorem de_call {x : Str} {fs : FS} (F : Cal C.X x fs) (hg : Gl C.X x) (h : DA C ρ (e :: es) fun evs ρ1 => ∃ avs, AvsOf ρ1 evs avs ∧ fs avs fun rv => k (.dat rv.data) ρ1)
    (hdb : (x == ("__debug__" : Str)) = false := by decide) (he : starEach (e :: es) C.X.env = (false, eval e C.X.env) :: starEach es C.X.env := by rfl) (hpl : (backTo pos (starEach es C.X.env)).any (·.1) = false := by rfl) :
    DE C ρ (.Call (.Name x p) (e :: es) [] pos) k := fun σ H Q r g => by
  refine (call_core (Q := fun v H' => ∃ ρ1 rv, KT H H' ∧ C.Rs ρ1 σ H' ∧ (∀ p vs, rv = .lst vs → v = .ref p → New C.H0 C.dr ρ1 σ p) ∧ RvOk C.X.K (fun _ => none) none H' v rv ∧ k (.dat rv.data) ρ1) F hg r ?_ hdb he hpl).thn ?_
  · intro σ' H1 Q' r' g'
    refine h σ' H1 Q' r' fun vs evs ρ1 H2 k2 r2 o2 h2 => g' vs evs ρ1 H2 k2 r2 o2 ?_
    obtain ⟨avs, ha, hf⟩ := h2
    exact ⟨avs, _, ha, hf, fun v rv H2 kt r2 n ok hk => ⟨ρ1, rv, kt, r2, n, ok, hk⟩⟩
  · intro pins s v u H' I rel hq
    obtain ⟨ρ1, rv, kt, r1, n, ok, hk⟩ := hq
    cases rv with
    | dat d => exact ⟨v, H', I, rel, g v (.dat d) ρ1 H' kt r1 ok hk⟩
    | lst ds =>
      obtain ⟨p', vs, rfl, _, _, h1, h2⟩ := ok
      obtain ⟨o, I'⟩ := freeze I h1 (by intro xs z; cases z) (by intro o w z; cases z) (by intro ps z; cases z) (by intro a z; cases z)
      refine ⟨_, _, I', rel, g _ (.dat (.list ds)) ρ1 _ (kt.trans (kt_frz h1)) (Rs.frz r1 (n p' ds rfl rfl) h1) ?_ hk⟩
      exact Rp.lst ⟨o, upd_same⟩ (h2.kt (kt_frz h1))
theorem dl_call {x : Str} {fs : FS} (F : Cal C.X x fs) (hg : Gl C.X x) (h : DA C ρ (e :: es) fun evs ρ1 => ∃ avs, AvsOf ρ1 evs avs ∧ fs avs fun rv => ∃ ds, rv = .lst ds ∧ kl ds ρ1)
    (hdb : (x == ("__debug__" : Str)) = false := by decide) (he : starEach (e :: es) C.X.env = (false, eval e C.X.env) :: starEach es C.X.env := by rfl) (hpl : (backTo pos (starEach es C.X.env)).any (·.1) = false := by rfl) :
    DL C ρ (.Call (.Name x p) (e :: es) [] pos) kl := fun σ H Q r g => by
  refine call_core F hg r ?_ hdb he hpl
  intro σ' H1 Q' r' g'
  refine h σ' H1 Q' r' fun vs evs ρ1 H2 k2 r2 o2 h2 => g' vs evs ρ1 H2 k2 r2 o2 ?_
  obtain ⟨avs, ha, hf⟩ := h2
  refine ⟨avs, _, ha, hf, fun v rv H2 kt r2 n ok hk => ?_⟩
  obtain ⟨ds, rfl, hk⟩ := hk
  obtain ⟨p', vs, rfl, _, _, h1, h2⟩ := ok
  exact g p' vs ds ρ1 H2 kt r2 (n p' ds rfl rfl) h1 h2 hk

/-! ### statements -/
variable {nx : Rho → Prop} {rt : RV → Prop} {bk ct : Rho → Prop} {st : Stmt} {sts : List Stmt} {kt : Bool → Rho → Prop}
theorem db_nil (q : nx ρ) : DB C ρ [] nx rt bk ct := fun σ H E r ac => WB.of pss_nil (ac.nx ρ σ H (KT.refl H) r q)
theorem db_cons (h : DS C ρ st (fun ρ1 => DB C ρ1 sts nx rt bk ct) rt bk ct) : DB C ρ (st :: sts) nx rt bk ct := fun σ H E r ac => by
  refine WB.of (pss_cons WS.ps WB.pss) ?_
  refine h σ H _ r ⟨fun ρ1 σ1 H1 k1 r1 q => ?_, ac.rt, ac.bk, ac.ct⟩
  exact q σ1 H1 E r1 (ac.kt k1)
theorem ds_ret (h : DE C ρ e fun ev ρ1 => ∃ d, ev = .dat d ∧ rt (.dat d)) : DS C ρ (.Return (some e) pos) nx rt bk ct := fun σ H E r ac => by
  refine WS.of (ps_ret WE.pe) ?_
  refine h σ H _ r fun v ev ρ1 H1 k1 r1 o1 h1 => ?_
  obtain ⟨d, rfl, hk⟩ := h1
  exact ac.rt v (.dat d) H1 k1 r1.fr o1 hk
theorem ds_retL (h : DL C ρ e fun ds ρ1 => rt (.lst ds)) : DS C ρ (.Return (some e) pos) nx rt bk ct := fun σ H E r ac => by
  refine WS.of (ps_ret WE.pe) ?_
  refine h σ H _ r fun p vs ds ρ1 H1 k1 r1 n hp hl hk => ?_
  exact ac.rt _ (.lst ds) H1 k1 r1.fr ⟨p, vs, rfl, n.e, n.d, hp, hl⟩ hk
theorem ds_retO (h : DE C ρ e fun ev ρ1 => ∃ i ds, ev = .ali i ∧ ρ1[i]? = some (.own ds) ∧ rt (.lst ds)) : DS C ρ (.Return (some e) pos) nx rt bk ct := fun σ H E r ac => by
  refine WS.of (ps_ret WE.pe) ?_
  refine h σ H _ r fun v ev ρ1 H1 k1 r1 o1 h1 => ?_
  obtain ⟨i, ds, rfl, hi, hk⟩ := h1
  obtain ⟨l, vs, e1, e2, e3, e4, e5⟩ := Rs.own r1 hi
  have e := (show σ[_]? = some (some _) from o1).symm.trans e1
  cases e
  exact ac.rt _ (.lst ds) H1 k1 r1.fr ⟨l, vs, rfl, e2, e3, e4, e5⟩ hk
theorem ds_expr (h : DE C ρ e fun _ ρ1 => nx ρ1) (hs : swapsWith e none pos.line C.X.env = pure false := by rfl) : DS C ρ (.Expr e pos) nx rt bk ct := fun σ H E r ac => by
  refine WS.of (ps_expr WE.pe hs) ?_
  exact h σ H _ r fun v ev ρ1 H1 k1 r1 o1 h1 => ac.nx ρ1 σ H1 k1 r1 h1
theorem ds_if {sa sb : List Stmt} (h : DT C ρ c fun t ρ1 => (t = true → DB C ρ1 sa nx rt bk ct) ∧ (t = false → DB C ρ1 sb nx rt bk ct)) : DS C ρ (.If c sa sb pos) nx rt bk ct := fun σ H E r ac => by
  refine WS.of (ps_if WT.pt WB.pss WB.pss) ?_
  refine h σ H _ r fun t ρ1 H1 k1 r1 h1 => ?_
  cases t with
  | true => exact iteT (h1.1 rfl σ H1 E r1 (ac.kt k1))
  | false => exact iteF (h1.2 rfl σ H1 E r1 (ac.kt k1))
theorem ds_pass (q : nx ρ) : DS C ρ (.Pass pos) nx rt bk ct := fun σ H E r ac => WS.of ps_pass (ac.nx ρ σ H (KT.refl H) r q)

/-- a slot gets data -/
theorem Rs.setD {i : Nat} {v : V} {d : PyData} (r : C.Rs ρ σ H) (q : C.Rp H v d) : C.Rs (ρ.set i (.dat d)) (σ.set i (some v)) H := by
  by_cases hi : i < ρ.length
  case neg =>
    rw [List.set_eq_of_length_le (by omega), List.set_eq_of_length_le (by rw [r.len]; omega)]
    exact r
  refine ⟨r.fr, by rw [List.length_set, List.length_set]; exact r.len, fun j sv h => ?_, fun j1 j2 s1 s2 l h1 h2 o1 o2 e1 e2 => ?_⟩
  · by_cases hj : i = j
    · subst hj
      rw [List.getElem?_set_self hi] at h
      cases h
      rw [List.getElem?_set_self (by rw [r.len]; exact hi)]
      exact ⟨v, rfl, q⟩
    · rw [List.getElem?_set_ne hj] at h
      rw [List.getElem?_set_ne hj]
      exact r.sl j sv h
  · have n1 : i ≠ j1 := fun z => by
      subst z
      rw [List.getElem?_set_self hi] at h1
      cases h1
      cases o1
    have n2 : i ≠ j2 := fun z => by
      subst z
      rw [List.getElem?_set_self hi] at h2
      cases h2
      cases o2
    rw [List.getElem?_set_ne n1] at h1 e1
    rw [List.getElem?_set_ne n2] at h2 e2
    exact r.sep j1 j2 s1 s2 l h1 h2 o1 o2 e1 e2
theorem Rs.setN {i : Nat} {v : V} (r : C.Rs ρ σ H) (hi : i < ρ.length) : C.Rs (ρ.set i .no) (σ.set i (some v)) H := by
  refine ⟨r.fr, by rw [List.length_set, List.length_set]; exact r.len, fun j sv h => ?_, fun j1 j2 s1 s2 l h1 h2 o1 o2 e1 e2 => ?_⟩
  · by_cases hj : i = j
    · subst hj
      rw [List.getElem?_set_self hi] at h
      cases h
      exact True.intro
    · rw [List.getElem?_set_ne hj] at h
      rw [List.getElem?_set_ne hj]
      exact r.sl j sv h
  · have n1 : i ≠ j1 := fun z => by
      subst z
      rw [List.getElem?_set_self hi] at h1
      cases h1
      cases o1
    have n2 : i ≠ j2 := fun z => by
      subst z
      rw [List.getElem?_set_self hi] at h2
      cases h2
      cases o2
    rw [List.getElem?_set_ne n1] at h1 e1
    rw [List.getElem?_set_ne n2] at h2 e2
    exact r.sep j1 j2 s1 s2 l h1 h2 o1 o2 e1 e2
/-- a slot gets a new list of its own -/
theorem Rs.setO {i : Nat} {p : Addr} {vs : List V} {ds : List PyData} (r : C.Rs ρ σ H) (n : New C.H0 C.dr ρ σ p) (hp : H p = some (.lst vs)) (q : C.RpL H vs ds) : C.Rs (ρ.set i (.own ds)) (σ.set i (some (.ref p))) H := by
  by_cases hi : i < ρ.length
  case neg =>
    rw [List.set_eq_of_length_le (by omega), List.set_eq_of_length_le (by rw [r.len]; omega)]
    exact r
  have hiσ : i < σ.length := by rw [r.len]; exact hi
  refine ⟨r.fr, by rw [List.length_set, List.length_set]; exact r.len, fun j sv h => ?_, fun j1 j2 s1 s2 l h1 h2 o1 o2 e1 e2 => ?_⟩
  · by_cases hj : i = j
    · subst hj
      rw [List.getElem?_set_self hi] at h
      cases h
      rw [List.getElem?_set_self hiσ]
      exact ⟨p, rfl, n.e, n.d, vs, hp, q⟩
    · rw [List.getElem?_set_ne hj] at h
      rw [List.getElem?_set_ne hj]
      exact r.sl j sv h
  · by_cases n1 : i = j1
    · by_cases n2 : i = j2
      · rw [← n1, n2]
      · exfalso
        subst n1
        rw [List.getElem?_set_self hiσ] at e1
        cases e1
        rw [List.getElem?_set_ne n2] at h2 e2
        exact n.s j2 s2 h2 o2 e2
    · by_cases n2 : i = j2
      · exfalso
        subst n2
        rw [List.getElem?_set_self hiσ] at e2
        cases e2
        rw [List.getElem?_set_ne n1] at h1 e1
        exact n.s j1 s1 h1 o1 e1
      · rw [List.getElem?_set_ne n1] at h1 e1
        rw [List.getElem?_set_ne n2] at h2 e2
        exact r.sep j1 j2 s1 s2 l h1 h2 o1 o2 e1 e2
theorem ds_set {i : Nat} {x : Str} {pos' : Pos} (h : DE C ρ e fun ev ρ1 => ∃ d, ev = .dat d ∧ nx (ρ1.set i (.dat d))) (hN : C.X.N.Nodup) (hi : C.X.N[i]? = some x) (hx : Loc C.X.env.scope x)
    (hs : swapsWith e (some (.Name x pos')) pos.line C.X.env = pure false := by rfl) (hf : C.X.fn x = true ∨ C.X.env.scope.names.lookup x = some .local := by first | exact .inl rfl | exact .inr rfl | assumption) : DS C ρ (.Assign [.Name x pos'] e pos) nx rt bk ct := fun σ H E r ac => by
  refine WS.of (ps_set hN hi hx WE.pe hs hf) ?_
  refine h σ H _ r fun v ev ρ1 H1 k1 r1 o1 h1 => ?_
  obtain ⟨d, rfl, hk⟩ := h1
  exact ac.nx _ _ H1 k1 (Rs.setD r1 o1) hk
theorem ds_setL {i : Nat} {x : Str} {pos' : Pos} (h : DL C ρ e fun ds ρ1 => nx (ρ1.set i (.own ds))) (hN : C.X.N.Nodup) (hi : C.X.N[i]? = some x) (hx : Loc C.X.env.scope x)
    (hs : swapsWith e (some (.Name x pos')) pos.line C.X.env = pure false := by rfl) (hf : C.X.fn x = true ∨ C.X.env.scope.names.lookup x = some .local := by first | exact .inl rfl | exact .inr rfl | assumption) : DS C ρ (.Assign [.Name x pos'] e pos) nx rt bk ct := fun σ H E r ac => by
  refine WS.of (ps_set hN hi hx WE.pe hs hf) ?_
  refine h σ H _ r fun p vs ds ρ1 H1 k1 r1 n hp hl h1 => ?_
  exact ac.nx _ _ H1 k1 (Rs.setO r1 n hp hl) h1
end
end DW
namespace DW
open PySem L2
section
variable {C : DC} {ρ ρ' : Rho} {σ : St} {H H' : Hp} {e a b c : Expr} {es : List Expr} {pos p apos cpos : Pos} {k : EV → Rho → Prop} {kd : PyData → Prop} {kl : List PyData → Rho → Prop} {nx : Rho → Prop} {rt : RV → Prop} {bk ct : Rho → Prop} {st : Stmt} {sts : List Stmt} {kt : Bool → Rho → Prop}

/-! ### a list of its own is changed -/
theorem Rs.upd {i : Nat} {l : Addr} {vs vs' : List V} {ds ds' : List PyData} (r : C.Rs ρ σ H) (h : ρ[i]? = some (.own ds)) (hl : σ[i]? = some (some (.ref l))) (hH : H l = some (.lst vs)) (q : C.RpL H vs' ds') : C.Rs (ρ.set i (.own ds')) σ (L2.upd H l (.lst vs')) := by
  have kt : KT H (L2.upd H l (.lst vs')) := KT.lst hH
  have hi : i < ρ.length := (List.getElem?_eq_some_iff.mp h).1
  obtain ⟨l', ws, e1, e2, e3, e4, e5⟩ := Rs.own r h
  rw [hl] at e1
  cases e1
  refine ⟨⟨fun b o hb hd => ?_, r.fr.kt.trans kt, fun a ha => ?_⟩, by rw [List.length_set]; exact r.len, fun j sv hj => ?_, fun j1 j2 s1 s2 l2 h1 h2 o1 o2 q1 q2 => ?_⟩
  · rw [upd_ne (fun z => by rw [z, e2] at hb; cases hb)]
    exact r.fr.ext b o hb hd
  · obtain ⟨g, m, c, q, t⟩ := r.fr.drw a ha
    exact ⟨g, m, c, by
      rw [upd_ne (fun z => e3 (by rw [ha, z]))]
      exact q, t⟩
  · by_cases hij : i = j
    · subst hij
      rw [List.getElem?_set_self hi] at hj
      cases hj
      rw [hl]
      exact ⟨l, rfl, e2, e3, vs', upd_same, q.kt kt⟩
    · rw [List.getElem?_set_ne hij] at hj
      have hs := r.sl j sv hj
      have hne : ∀ l2, sv.isOwn = true → (σ[j]?.join) = some (.ref l2) → l2 ≠ l := fun l2 ho e z => by
        subst z
        obtain ⟨w, hw⟩ := Rs.at r hj
        rw [hw] at e
        exact hij (r.sep i j _ sv l2 h hj rfl ho hl (by rw [hw, show w = some (.ref l2) from e]))
      cases sv with
      | no => exact True.intro
      | dat d =>
        obtain ⟨x, h1, h2⟩ := hs
        exact ⟨x, h1, h2.kt kt⟩
      | own ds =>
        obtain ⟨l2, h1, h2, h3, us, h4, h5⟩ := hs
        exact ⟨l2, h1, h2, h3, us, by rw [upd_ne (hne l2 rfl h1)]; exact h4, h5.kt kt⟩
      | dic ds =>
        obtain ⟨l2, h1, h2, h3, us, h4, h5⟩ := hs
        exact ⟨l2, h1, h2, h3, us, by rw [upd_ne (hne l2 rfl h1)]; exact h4, h5.kt kt⟩
      | drw => exact hs
      | scr ns =>
        obtain ⟨a, h1, h2⟩ := hs
        exact ⟨a, h1, h2.kt kt⟩
  · have c1 : ∃ s1', ρ[j1]? = some s1' ∧ s1'.isOwn = true := by
      by_cases hz : i = j1
      · exact ⟨_, by rw [← hz]; exact h, rfl⟩
      · rw [List.getElem?_set_ne hz] at h1
        exact ⟨s1, h1, o1⟩
    have c2 : ∃ s2', ρ[j2]? = some s2' ∧ s2'.isOwn = true := by
      by_cases hz : i = j2
      · exact ⟨_, by rw [← hz]; exact h, rfl⟩
      · rw [List.getElem?_set_ne hz] at h2
        exact ⟨s2, h2, o2⟩
    obtain ⟨s1', g1, g2⟩ := c1
    obtain ⟨s2', g3, g4⟩ := c2
    exact r.sep j1 j2 s1' s2' l2 g1 g3 g2 g4 q1 q2


theorem own_var {i : Nat} {x : Str} {ds : List PyData} {Q : VK} (r : C.Rs ρ σ H) (h0 : ρ[i]? = some (.own ds)) (q : ∀ l vs, σ[i]? = some (some (.ref l)) → H l = some (.lst vs) → C.RpL H vs ds → Q (.ref l) H) : tVar i σ H Q := by
  obtain ⟨l, vs, e1, _, _, e4, e5⟩ := Rs.own r h0
  exact ⟨.ref l, e1, q l vs e1 e4 e5⟩
/-- xs.append(e) -/
theorem de_append {i : Nat} {x : Str} {px : Pos} {ds0 : List PyData} (h : DE C ρ e fun ev ρ1 => ∃ d ds, ev = .dat d ∧ ρ1[i]? = some (.own ds) ∧ ds.length < sizeLine ∧ k (.dat .none) (ρ1.set i (.own (ds ++ [d]))))
    (h0 : ρ[i]? = some (.own ds0)) (hN : C.X.N[i]? = some x) (hv : Vis C.X.env.scope x) (hd : (x == ("__debug__" : Str)) = false := by decide) (hcd : (x == ("__classdict__" : Str)) = false := by decide)
    (hbase : attributeBase (.Name x px) "append" C.X.env (eval (.Name x px) C.X.env) = eval (.Name x px) C.X.env := by rfl)
    (hfew : ((backTo cpos (starEach [e] C.X.env)).all (fun x => !x.1) && (backToKw cpos (keywordEach [] C.X.env)).all (fun x => x.1.isSome)
      && decide (([e] : List Expr).length + ([] : List Keyword).length + (if ([] : List Keyword).isEmpty then 0 else 1) < 30)) = true := by rfl)
    (hline : (apos.endLine == cpos.line) = true := by rfl) (hs : starEach [e] C.X.env = (false, eval e C.X.env) :: starEach [] C.X.env := by rfl) (hplain : (backTo cpos (starEach [] C.X.env)).any (·.1) = false := by rfl) :
    DE C ρ (.Call (.Attribute (.Name x px) "append" apos) [e] [] cpos) k := fun σ H Q r g => by
  refine WE.of (pe_bm PySem.F.plainAttrs_list PySem.F.slot_list_append PySem.F.type_list_append mt_append (pe_var hN hv hd hcd) (pa_cons WE.pe pa_nil hs) hbase hfew hline hs hplain) ?_
  refine own_var (x := x) r h0 fun l vs e1 e4 e5 => ⟨.inl ⟨rfl, _, SqL.of e4⟩, ?_⟩
  refine h σ H _ r fun v ev ρ1 H1 k1 r1 o1 h1 => ?_
  obtain ⟨d, ds, rfl, hi, hz, hk⟩ := h1
  obtain ⟨l', ws, f1, _, _, f4, f5⟩ := Rs.own r1 hi
  rw [e1] at f1
  cases f1
  refine ⟨l, ws, v, rfl, rfl, f4, by rw [f5.length]; exact hz, ?_⟩
  exact g _ (.dat .none) _ _ (k1.trans (KT.lst f4)) (Rs.upd r1 hi e1 f4 (f5.snoc o1)) Rp.non hk
/-- xs.pop() -/
theorem de_pop {i : Nat} {x : Str} {px : Pos} {ds : List PyData} {d : PyData} (h0 : ρ[i]? = some (.own (ds ++ [d]))) (q : k (.dat d) (ρ.set i (.own ds))) (hN : C.X.N[i]? = some x) (hv : Vis C.X.env.scope x) (hd : (x == ("__debug__" : Str)) = false := by decide) (hcd : (x == ("__classdict__" : Str)) = false := by decide)
    (hbase : attributeBase (.Name x px) "pop" C.X.env (eval (.Name x px) C.X.env) = eval (.Name x px) C.X.env := by rfl) (hline : (apos.endLine == cpos.line) = true := by rfl) :
    DE C ρ (.Call (.Attribute (.Name x px) "pop" apos) [] [] cpos) k := fun σ H Q r g => by
  refine WE.of (pe_bm0 PySem.F.plainAttrs_list PySem.F.slot_list_pop PySem.F.type_list_pop mt_pop (pe_var hN hv hd hcd) hbase hline) ?_
  refine own_var (x := x) r h0 fun l vs e1 e4 e5 => ⟨.inl ⟨rfl, _, SqL.of e4⟩, ?_⟩
  have hl := e5.length
  rw [List.length_append, List.length_singleton] at hl
  obtain ⟨v, hv1, hv2⟩ := e5.getD (i := ds.length) (d := d) (by simp)
  refine ⟨l, vs, v, rfl, rfl, e4, by rw [hl]; exact hv1, ?_⟩
  have hdl : C.RpL H vs.dropLast ds := by
    have := e5.dropLast
    rw [List.dropLast_concat] at this
    exact this
  exact g _ (.dat d) _ _ (KT.lst e4) (Rs.upd r h0 e1 e4 hdl) (hv2.kt (KT.lst e4)) q
/-! xs.extend(ys), ys a list or a tuple that is read -/
open AutoSeq1 in
theorem extend_any (l : Addr) (items : Array Value) (n : Nat) (b : Addr) (items2 : Array Value) (n2 : Nat) (dd : Option Addr) (sl : Array (Option Value)) (T : String) (hT : T = "list" ∨ T = "tuple") (hs0 : ¬(!items.isEmpty && Builtin.List.listTooLong (items.size + items2.size)) = true) (hs1 : items.size ≤ sizeLine) (hs2 : items.size + items2.size ≤ sizeLine + 1) :
    Meets (Builtin.«list.extend» ⟨[.ref l, .ref b], []⟩) (fun _ R s => s.heap.get? l = some { cls := .type "list", dict := none, data := .seq items n, slots := #[] } ∧ s.heap.get? b = some { cls := .type T, dict := dd, data := .seq items2 n2, slots := sl } ∧ R (.ok (.ret Value.none)) { s with heap := s.heap.update l (Obj.mapSeq (· ++ items2)) }) := by
  rcases hT with rfl | rfl
  · exact .of_wp fun prog w A R s h => by
      obtain ⟨hp, g, d, tk, os⟩ := s; obtain ⟨hl, hb, h⟩ := h; have f1 := idx_int; have f2 := sub_tuple_tuple; have f3 := sub_list_list; have f4 := sub_tuple_list; have f5 := sub_list_tuple
      have hz' : (items ++ items2).size ≤ sizeLine + 1 := by rw [Array.size_append]; exact hs2
      wp_walk using (wpAny_updateSeq hl rfl (hz := hs1) (_hz' := hz')), wpAny_loadPart' hl, wpAny_loadPart' hb; exact ⟨_, rfl, h⟩
  · exact .of_wp fun prog w A R s h => by
      obtain ⟨hp, g, d, tk, os⟩ := s; obtain ⟨hl, hb, h⟩ := h; have f1 := idx_int; have f2 := sub_tuple_tuple; have f3 := sub_list_list; have f4 := sub_tuple_list; have f5 := sub_list_tuple
      have hz' : (items ++ items2).size ≤ sizeLine + 1 := by rw [Array.size_append]; exact hs2
      wp_walk using (wpAny_updateSeq hl rfl (hz := hs1) (_hz' := hz')), wpAny_loadPart' hl, wpAny_loadPart' hb; exact ⟨_, rfl, h⟩
def rExtendA (K : PySem.W.Frag) : V → List V → Hp → VK → Prop := fun x vs H Q => ∃ l b xs zs, x = .ref l ∧ vs = [.ref b] ∧ H l = some (.lst xs) ∧ (SqL K H b zs ∨ SqT K H b zs) ∧ xs.length + zs.length ≤ sizeLine ∧ Q .non (L2.upd H l (.lst (xs ++ zs)))
theorem mt_extendA {X : Cx} : MtM X "list.extend" (rExtendA X.K) := by
  intro pins s σ H x vs v us Q I rx rv h
  obtain ⟨l, b, xs, zs, rfl, rfl, hH, hB, hz, q⟩ := h
  cases rx
  obtain ⟨u, rfl, ru⟩ := rv.one
  cases ru
  obtain ⟨z, its, n, r, hl, e⟩ := I.lstM hH
  have key : ∀ (T : String) (hT : T = "list" ∨ T = "tuple") (its2 : List Value) (o : Obj) (n2 : Nat), Vals zs its2 → s.heap.get? b = some o → o.cls = .type T → o.data = .seq its2.toArray n2 →
      wpAny (model X.prog X.w) X.A (call (.builtin "list.extend") [.ref l, .ref b]) (EP X pins σ Q) X.xe s := fun T hT its2 o n2 r2 ho hc hd => by
    have hl2 := r2.length
    obtain ⟨cls, dd, data, sl⟩ := o
    simp only at hc hd
    subst hc hd
    have hsz : its.toArray.size + its2.toArray.size ≤ sizeLine := by rw [List.size_toArray, List.size_toArray]; omega
    have hlong : ¬ (!its.toArray.isEmpty && Builtin.List.listTooLong (its.toArray.size + its2.toArray.size)) = true := by
      rw [notLongL hsz, Bool.and_false]
      exact Bool.false_ne_true
    refine call_meets F.slot_list_extend ⟨_, e, rfl⟩ F.entry_list_extend (F.args_list_extend_2 _ _)
      (extend_any l its.toArray n b its2.toArray n2 dd sl T hT hlong (by rw [List.size_toArray]; omega) (by omega)) ⟨e, ho, ?_⟩
    refine ⟨.non, _, I.lset (its' := its ++ its2) hH e (by simp) (r.append r2) ?_, rfl, q⟩
    rw [List.length_append]
    omega
  rcases hB with hB | hB
  · obtain ⟨its2, r2, ⟨o, n2, ho, hc, _, hd⟩, _⟩ := I.list hB
    exact key "list" (.inl rfl) its2 o n2 r2 ho hc hd
  · obtain ⟨its2, r2, ⟨o, ho, hc, n2, hd⟩, _⟩ := I.tuple hB
    exact key "tuple" (.inr rfl) its2 o n2 r2 ho hc hd
theorem de_extend {i : Nat} {x : Str} {px : Pos} {ds0 : List PyData} (h : DE C ρ e fun ev ρ1 => ∃ zs ds, (ev = .dat (.list zs) ∨ ev = .dat (.tuple zs)) ∧ ρ1[i]? = some (.own ds) ∧ ds.length + zs.length ≤ sizeLine ∧ k (.dat .none) (ρ1.set i (.own (ds ++ zs))))
    (h0 : ρ[i]? = some (.own ds0)) (hN : C.X.N[i]? = some x) (hv : Vis C.X.env.scope x) (hd : (x == ("__debug__" : Str)) = false := by decide) (hcd : (x == ("__classdict__" : Str)) = false := by decide)
    (hbase : attributeBase (.Name x px) "extend" C.X.env (eval (.Name x px) C.X.env) = eval (.Name x px) C.X.env := by rfl)
    (hfew : ((backTo cpos (starEach [e] C.X.env)).all (fun x => !x.1) && (backToKw cpos (keywordEach [] C.X.env)).all (fun x => x.1.isSome)
      && decide (([e] : List Expr).length + ([] : List Keyword).length + (if ([] : List Keyword).isEmpty then 0 else 1) < 30)) = true := by rfl)
    (hline : (apos.endLine == cpos.line) = true := by rfl) (hs : starEach [e] C.X.env = (false, eval e C.X.env) :: starEach [] C.X.env := by rfl) (hplain : (backTo cpos (starEach [] C.X.env)).any (·.1) = false := by rfl) :
    DE C ρ (.Call (.Attribute (.Name x px) "extend" apos) [e] [] cpos) k := fun σ H Q r g => by
  refine WE.of (pe_bm PySem.F.plainAttrs_list PySem.F.slot_list_extend PySem.F.type_list_extend mt_extendA (pe_var hN hv hd hcd) (pa_cons WE.pe pa_nil hs) hbase hfew hline hs hplain) ?_
  refine own_var (x := x) r h0 fun l vs e1 e4 e5 => ⟨.inl ⟨rfl, _, SqL.of e4⟩, ?_⟩
  refine h σ H _ r fun v ev ρ1 H1 k1 r1 o1 h1 => ?_
  obtain ⟨zs, ds, hev, hi, hz, hk⟩ := h1
  obtain ⟨l', ws, f1, _, _, f4, f5⟩ := Rs.own r1 hi
  rw [e1] at f1
  cases f1
  obtain ⟨b, us, rfl, hsq, hus⟩ : ∃ b us, v = .ref b ∧ (SqL C.X.K H1 b us ∨ SqT C.X.K H1 b us) ∧ C.RpL H1 us zs := by
    rcases hev with rfl | rfl
    · obtain ⟨b, us, rfl, h1, h2⟩ := (Mp.rp o1).lst
      exact ⟨b, us, rfl, .inl h1, h2⟩
    · obtain ⟨b, us, rfl, h1, h2⟩ := (Mp.rp o1).tup
      exact ⟨b, us, rfl, .inr h1, h2⟩
  refine ⟨l, b, ws, us, rfl, rfl, f4, hsq, by rw [f5.length, hus.length]; exact hz, ?_⟩
  exact g _ (.dat .none) _ _ (k1.trans (KT.lst f4)) (Rs.upd r1 hi e1 f4 (f5.append hus)) Rp.non hk

/-! ### list + list, tuple + tuple, text + text -/
theorem exact_list {X : Cx} {pins : List (Addr × Obj)} {s : Shared} {l : Addr} {xs : List V} (I : Inv X pins σ H s) (h : Rd H l (.lst xs)) : xs.length ≤ sizeLine ∧ ∃ (its : List Value) (n : Nat), Vals xs its ∧ s.heap.get? l = some { cls := .type "list", data := .seq its.toArray n } := by
  obtain ⟨z, its, n, r, e⟩ := h.ok I.hok
  exact ⟨z, its, n, r, e⟩
def rCatR : R2 := fun x y H Q => ∃ l b xs zs, x = .ref l ∧ y = .ref b ∧ Rd H l (.lst xs) ∧ Rd H b (.lst zs) ∧ xs.length + zs.length ≤ sizeLine ∧ ∀ p, H p = none → Q (.ref p) (L2.upd H p (.lst (xs ++ zs)))
theorem op_catR {X : Cx} : OpR X (binaryOp .Add) rCatR := by
  intro pins s σ H x y v u Q I rx ry h
  obtain ⟨l, b, xs, zs, rfl, rfl, hH, hB, hz, q⟩ := h
  cases rx
  cases ry
  obtain ⟨z, its, n, r, e⟩ := exact_list I hH
  obtain ⟨z2, its2, n2, r2, e2⟩ := exact_list I hB
  have hl := r.length
  have hl2 := r2.length
  refine PySem.P.add_list e e2 ?_ (by rw [List.size_toArray, List.size_toArray]; omega)
  have ea : its.toArray ++ its2.toArray = (its ++ its2).toArray := by simp
  rw [ea]
  exact ⟨.ref _, _, I.lnew (t' := s.toks) (r.append r2) (by rw [List.length_append]; omega), rfl, q _ I.fresh⟩
/-- a new list from an operation -/
theorem dl_op {op : Operator} (h : DE C ρ a fun x ρ1 => DE C ρ1 b fun y ρ2 => ∃ dx dy, DatOf ρ2 x dx ∧ DatOf ρ2 y dy ∧ DOpL C.X (binaryOp op) dx dy fun ds => kl ds ρ2) : DL C ρ (.BinOp a op b pos) kl := fun σ H Q r g => by
  have hO : OpR C.X (binaryOp op) (fun x y H Q => ∀ pins s σ (v u : Value), Inv C.X pins σ H s → RelV x v → RelV y u → wpAny (model C.X.prog C.X.w) C.X.A (binaryOp op v u) (EP C.X pins σ Q) C.X.xe s) :=
    fun pins s σ H x y v u Q I rx ry z => z pins s σ v u I rx ry
  refine WE.of (pe_op hO WE.pe WE.pe) ?_
  refine h σ H _ r fun v1 x ρ1 H1 k1 r1 o1 h1 => ?_
  refine h1 σ H1 _ r1 fun v2 y ρ2 H2 k2 r2 o2 h2 => ?_
  obtain ⟨dx, dy, hx, hy, hop⟩ := h2
  intro pins s σ' u w I rx ry
  refine hop pins s σ' H2 v1 v2 u w Q I rx ry (hx.mp r2 (o1.kt k2)) (hy.mp r2 o2) fun p vs ds H' np ex hp rp hk => ?_
  exact g p vs ds ρ2 H' ((k1.trans k2).trans ex.kt) (r2.ex ex) (New.of_none r2 np) hp rp hk
theorem dol_cat {xs ys : List PyData} {kd : List PyData → Prop} (q : kd (xs ++ ys)) (hz : xs.length + ys.length ≤ sizeLine) : DOpL C.X (binaryOp .Add) (.list xs) (.list ys) kd := fun pins s σ H vx vy u w Q I rx ry mx my g => by
  obtain ⟨l, vs, rfl, h1, h2⟩ := mx.rd
  obtain ⟨l', vs', rfl, h1', h2'⟩ := my.rd
  refine op_catR pins s σ H _ _ u w Q I rx ry ⟨l, l', vs, vs', rfl, rfl, h1, h1', by rw [h2.length, h2'.length]; exact hz, fun p np => ?_⟩
  have ex : Ex H (L2.upd H p (.lst (vs ++ vs'))) := Ex.new np
  exact g p _ _ _ np ex upd_same ((h2.append h2').kt ex.kt) q
theorem do_catT {xs ys : List PyData} (q : kd (.tuple (xs ++ ys))) (hz : xs.length + ys.length ≤ sizeLine) : DOp C.X (binaryOp .Add) (.tuple xs) (.tuple ys) kd := fun pins s σ H vx vy u w Q I rx ry mx my g => by
  obtain ⟨l, vs, rfl, h1, h2⟩ := mx.tup
  obtain ⟨l', vs', rfl, h1', h2'⟩ := my.tup
  by_cases hx : vs = []
  · subst hx
    cases h2
    cases rx
    cases ry
    obtain ⟨its, rv, ht, _⟩ := I.tuple h1
    obtain ⟨its', rv', ht', _⟩ := I.tuple h1'
    cases rv
    exact cat_tup0 ht ht' ⟨.ref l', H, I, rfl, g _ _ H (Ex.refl H) (Rp.tup h1' h2') q⟩
  · refine op_catT pins s σ H _ _ u w Q I rx ry ⟨l, l', vs, vs', rfl, rfl, h1, h1', hx, by rw [h2.length, h2'.length]; exact hz, fun hy => ?_, fun hy p np => ?_⟩
    · subst hy
      cases h2'
      rw [List.append_nil] at q
      exact g _ _ H (Ex.refl H) (Rp.tup h1 h2) q
    · have ex : Ex H (L2.upd H p (.tup (vs ++ vs'))) := Ex.new np
      exact g _ _ _ ex (Rp.tup (SqT.of upd_same) ((h2.append h2').kt ex.kt)) q
theorem do_catS {x y : Str} (q : kd (.str (x ++ y))) (hz : x.length + y.length ≤ sizeLine) : DOp C.X (binaryOp .Add) (.str x) (.str y) kd := DOp.of op_add_str fun H vx vy Q mx my z => by
  cases mx.str
  cases my.str
  exact ⟨x, y, rfl, rfl, hz, z _ _ H (Ex.refl H) (.str _) q⟩
end
end DW
namespace DW
open PySem L2
section
variable {C : DC} {ρ ρ' : Rho} {σ : St} {H H' : Hp} {e a b c iter : Expr} {es : List Expr} {pos p apos cpos : Pos} {k : EV → Rho → Prop} {kd : PyData → Prop} {kl : List PyData → Rho → Prop} {nx : Rho → Prop} {rt : RV → Prop} {bk ct : Rho → Prop} {st : Stmt} {sts body : List Stmt} {kt : Bool → Rho → Prop} {tg : Expr}

/-! ### while -/
theorem ds_while (W : Nat → Rho → Prop) (m0 : Nat) (h0 : W m0 ρ) (hs : ∀ m ρ, W m ρ → DT C ρ c fun t ρ1 => (t = true → DB C ρ1 body (fun ρ2 => ∃ m', m' < m ∧ W m' ρ2) rt nx (fun ρ2 => ∃ m', m' < m ∧ W m' ρ2)) ∧ (t = false → nx ρ1))
    (hp : PassesOwn (model C.X.prog C.X.w) C.X.A C.X.env C.X.xe := by exact PassesOwn.never) : DS C ρ (.While c body [] pos) nx rt bk ct := fun σ H E r ac => by
  refine WS.of (ps_while hp WT.pt WB.pss) ?_
  refine ⟨fun m σ' H' => ∃ ρ', W m ρ' ∧ C.Rs ρ' σ' H' ∧ KT H H', ⟨m0, ρ, h0, r, KT.refl H⟩, fun m σ1 H1 ⟨ρ1, w1, r1, k1⟩ => ?_⟩
  refine hs m ρ1 w1 σ1 H1 _ r1 fun t ρ2 H2 k2 r2 h2 => ?_
  cases t with
  | false => exact iteF (ac.nx ρ2 σ1 H2 (k1.trans k2) r2 (h2.2 rfl))
  | true =>
    refine iteT ⟨fun σ3 H3 => ∃ m', m' < m ∧ ∃ ρ3, W m' ρ3 ∧ C.Rs ρ3 σ3 H3 ∧ KT H H3, fun _ _ z => z, ?_⟩
    have k12 := k1.trans k2
    exact h2.1 rfl σ1 H2 _ r2 ⟨fun ρ3 σ3 H3 k3 r3 ⟨m', lt, w3⟩ => ⟨m', lt, ρ3, w3, r3, k12.trans k3⟩, fun v rv H3 k3 fr ok q => ac.rt v rv H3 (k12.trans k3) fr ok q,
      fun ρ3 σ3 H3 k3 r3 q => ac.nx ρ3 σ3 H3 (k12.trans k3) r3 q, fun ρ3 σ3 H3 k3 r3 ⟨m', lt, w3⟩ => ⟨m', lt, ρ3, w3, r3, k12.trans k3⟩⟩

/-! ### targets -/
def WG (X : Cx) (tg : Expr) : TG := fun v σ H Q => ∀ pins s u, Inv X pins σ H s → RelV v u → wpAny (model X.prog X.w) X.A (assign tg X.env u) (fun _ s' => ∃ σ' H', Inv X pins σ' H' s' ∧ Q σ' H') X.xe s
theorem WG.pg {X : Cx} : PG X tg (WG X tg) := ⟨fun pins s _ _ _ u _ I r h => h pins s u I r⟩
theorem WG.of {X : Cx} {t : TG} {v : V} {Q : St → Hp → Prop} (h : PG X tg t) (q : t v σ H Q) : WG X tg v σ H Q := fun pins s u I r => h.run pins s σ H v u Q I r q
/-- a target takes data -/
def DGo (C : DC) (ρ : Rho) (tg : Expr) (d : PyData) (k : Rho → Prop) : Prop :=
  ∀ σ H v (Q : St → Hp → Prop), C.Rs ρ σ H → C.Rp H v d → (∀ ρ' σ', C.Rs ρ' σ' H → k ρ' → Q σ' H) → WG C.X tg v σ H Q
theorem dg_name {i : Nat} {x : Str} {d : PyData} {k : Rho → Prop} (q : k (ρ.set i (.dat d))) (hN : C.X.N.Nodup) (hi : C.X.N[i]? = some x) (hx : Loc C.X.env.scope x) (hf : C.X.fn x = true ∨ C.X.env.scope.names.lookup x = some .local := by first | exact .inl rfl | exact .inr rfl | assumption) :
    DGo C ρ (.Name x pos) d k := fun σ H v Q r rp g => WG.of (pg_name hN hi hx hf) (g _ _ (Rs.setD r rp) q)
def DGs (C : DC) (ρ : Rho) (ts : List Expr) (ds : List PyData) (k : Rho → Prop) : Prop :=
  ∃ t, PGs C.X ts t ∧ ∀ σ H vs (Q : St → Hp → Prop), C.Rs ρ σ H → C.RpL H vs ds → (∀ ρ' σ', C.Rs ρ' σ' H → k ρ' → Q σ' H) → t vs σ H Q
theorem dgs_nil {k : Rho → Prop} (q : k ρ) : DGs C ρ [] [] k := ⟨_, pgs_nil, fun σ H vs Q r rp g => by
  cases rp
  exact ⟨rfl, g ρ σ r q⟩⟩
theorem dgs_cons {i : Nat} {x : Str} {d : PyData} {ts : List Expr} {ds : List PyData} {k : Rho → Prop} (h : DGs C (ρ.set i (.dat d)) ts ds k) (hN : C.X.N.Nodup) (hi : C.X.N[i]? = some x) (hx : Loc C.X.env.scope x) (hf : C.X.fn x = true ∨ C.X.env.scope.names.lookup x = some .local := by first | exact .inl rfl | exact .inr rfl | assumption)
    (hs : (assignEach (.Name x pos :: ts) C.X.env).map (·.2) = assign (.Name x pos) C.X.env :: (assignEach ts C.X.env).map (·.2) := by rfl) : DGs C ρ (.Name x pos :: ts) (d :: ds) k := by
  obtain ⟨t, h1, h2⟩ := h
  refine ⟨_, pgs_cons (pg_name hN hi hx hf) h1 hs, fun σ H vs Q r rp g => ?_⟩
  cases rp with
  | cons rp1 rp2 => exact ⟨_, _, rfl, h2 _ H _ Q (Rs.setD r rp1) rp2 g⟩
theorem dg_tup {ts : List Expr} {kk : Nat} {ds : List PyData} {k : Rho → Prop} {n : Nat} (h : DGs C ρ ts ds k) (hd : ds.length = n) (hc : C.X.calm = true) (hn : (assignEach ts C.X.env).length = n := by rfl) (hst : (assignEach ts C.X.env).findIdx? (·.1) = none := by rfl) :
    DGo C ρ (.Tuple ts kk pos) (.tuple ds) k := fun σ H v Q r rp g => by
  obtain ⟨t, h1, h2⟩ := h
  refine WG.of (pg_tup hc h1 hn hst) ?_
  obtain ⟨l, vs, rfl, e1, e2⟩ := (Mp.rp rp).tup
  exact ⟨l, vs, rfl, e1, by rw [e2.length]; exact hd, h2 σ H vs Q r e2 g⟩
/-- a, b = e -/
theorem ds_asg {tg : Expr} (h : DE C ρ e fun ev ρ1 => ∃ d, ev = .dat d ∧ DGo C ρ1 tg d nx) (hs : swapsWithSole [tg] e pos.line C.X.env = pure false := by rfl) (hw : swappedStores [tg] e C.X.env = pure none := by rfl)
    (h1 : (assignEach [tg] C.X.env).map (·.2) = [assign tg C.X.env] := by rfl) : DS C ρ (.Assign [tg] e pos) nx rt bk ct := fun σ H E r ac => by
  refine WS.of (ps_asg WE.pe WG.pg hs hw h1) ?_
  refine h σ H _ r fun v ev ρ1 H1 k1 r1 o1 h1 => ?_
  obtain ⟨d, rfl, hg⟩ := h1
  exact hg σ H1 v _ r1 o1 fun ρ2 σ2 r2 q => ac.nx ρ2 σ2 H1 k1 r2 q
/-- a, b = x, y -/
theorem ds_par {i j : Nat} {x y : Str} {px py pt : Pos} {kt k2 pt2} (h : DA C ρ [a, b] fun evs ρ1 => ∃ d d', evs = [.dat d, .dat d'] ∧ nx ((ρ1.set i (.dat d)).set j (.dat d')))
    (hp : ∀ ta, PA C.X [a, b] ta → PS C.X (.Assign [.Tuple [.Name x px, .Name y py] kt pt] (.Tuple [a, b] k2 pt2) pos) (tPar i j ta)) : DS C ρ (.Assign [.Tuple [.Name x px, .Name y py] kt pt] (.Tuple [a, b] k2 pt2) pos) nx rt bk ct := fun σ H E r ac => by
  refine WS.of (hp _ WA.pa) ?_
  refine h σ H _ r fun vs evs ρ1 H1 k1 r1 o1 h1 => ?_
  obtain ⟨d, d', rfl, hk⟩ := h1
  cases o1 with
  | cons q1 q2 =>
    cases q2 with
    | cons q2 q3 =>
      cases q3
      exact ⟨_, _, rfl, ac.nx _ _ H1 k1 (Rs.setD (Rs.setD r1 q1) q2) hk⟩

/-! ### what is walked -/
def WI (X : Cx) (tg iter : Expr) : TI := fun σ H R => ∀ pins s, Inv X pins σ H s → wpAny (model X.prog X.w) X.A (eval iter X.env) (fun v s1 => wpAny (model X.prog X.w) X.A (pyIter v) (PIE X pins σ tg R) X.xe s1) X.xe s
theorem WI.pi {X : Cx} : PI X tg iter (WI X tg iter) := ⟨fun pins s _ _ _ I h => h pins s I⟩
theorem WI.of {X : Cx} {wi : TI} {R : It → Hp → Prop} (h : PI X tg iter wi) (q : wi σ H R) : WI X tg iter σ H R := fun pins s I => h.run pins s σ H R I q
/-- J gives the items ds, whatever else changes -/
structure Wk (K : PySem.W.Frag) (H : Hp) (J : It) (ds : List PyData) : Prop where
  go : ∀ H1 i, KT H H1 → i < ds.length → J.go i H1
  yld : ∀ H1 i x H2, KT H H1 → J.yld i H1 x H2 → Ex H1 H2 ∧ ∀ d, ds[i]? = some d → Rp K H2 x d
  stop : ∀ H1, KT H H1 → J.stop ds.length H1
def DI (C : DC) (ρ : Rho) (tg iter : Expr) (k : List PyData → Rho → Prop) : Prop :=
  ∀ σ H (R : It → Hp → Prop), C.Rs ρ σ H → (∀ J ds ρ' H', KT H H' → C.Rs ρ' σ H' → Wk C.X.K H' J ds → k ds ρ' → R J H') → WI C.X tg iter σ H R
theorem di_tup (h : DE C ρ iter fun ev ρ1 => ∃ ds, ev = .dat (.tuple ds) ∧ kl ds ρ1) : DI C ρ tg iter kl := fun σ H R r g => by
  refine WI.of (pi_tup WE.pe) ?_
  refine h σ H _ r fun v ev ρ1 H1 k1 r1 o1 h1 => ?_
  obtain ⟨ds, rfl, hk⟩ := h1
  obtain ⟨l, vs, rfl, e1, e2⟩ := (Mp.rp o1).tup
  refine ⟨l, rfl, ⟨vs, e1⟩, g _ ds ρ1 H1 k1 r1 ⟨fun H2 i k2 hi => ?_, fun H2 i x H3 k2 hy => ?_, fun H2 k2 => ⟨vs, sqt_kt k2 e1, by rw [e2.length]; exact Nat.le_refl _⟩⟩ hk⟩
  · have hi' : i < vs.length := by rw [e2.length]; exact hi
    exact ⟨vs, vs[i], sqt_kt k2 e1, List.getElem?_eq_getElem hi'⟩
  · obtain ⟨rfl, hy⟩ := hy
    refine ⟨Ex.refl _, fun d hd => ?_⟩
    obtain ⟨v, hv, rv⟩ := e2.getD hd
    have := hy vs (sqt_kt k2 e1)
    rw [hv] at this
    cases this
    exact rv.kt k2
theorem di_lst (h : DE C ρ iter fun ev ρ1 => ∃ ds, ev = .dat (.list ds) ∧ kl ds ρ1) : DI C ρ tg iter kl := fun σ H R r g => by
  refine WI.of (pi_list WE.pe) ?_
  refine h σ H _ r fun v ev ρ1 H1 k1 r1 o1 h1 => ?_
  obtain ⟨ds, rfl, hk⟩ := h1
  obtain ⟨l, vs, rfl, e1, e2⟩ : ∃ l vs, v = .ref l ∧ SqF C.X.K H1 l vs ∧ C.RpL H1 vs ds := by
    cases (show C.Rp H1 v (.list ds) from o1) with
    | lst h q => exact ⟨_, _, rfl, h, q⟩
  refine ⟨l, rfl, ⟨vs, e1.l⟩, g _ ds ρ1 H1 k1 r1 ⟨fun H2 i k2 hi => ?_, fun H2 i x H3 k2 hy => ?_, fun H2 k2 => ⟨vs, (e1.kt k2).l, by rw [e2.length]; exact Nat.le_refl _⟩⟩ hk⟩
  · have hi' : i < vs.length := by rw [e2.length]; exact hi
    exact ⟨vs, vs[i], (e1.kt k2).l, List.getElem?_eq_getElem hi'⟩
  · obtain ⟨rfl, hy⟩ := hy
    refine ⟨Ex.refl _, fun d hd => ?_⟩
    obtain ⟨v, hv, rv⟩ := e2.getD hd
    have := hy vs (e1.kt k2).l
    rw [hv] at this
    cases this
    exact rv.kt k2
def upTo (lo : Int) (n : Nat) : List PyData := (List.range n).map fun (i : Nat) => .int (lo + i)
theorem upTo_len (lo : Int) (n : Nat) : (upTo lo n).length = n := by unfold upTo; rw [List.length_map, List.length_range]
theorem upTo_get {lo : Int} {n i : Nat} {d : PyData} (h : (upTo lo n)[i]? = some d) : i < n ∧ d = .int (lo + i) := by
  have hi : i < n := by
    have := (List.getElem?_eq_some_iff.mp h).1
    rwa [upTo_len] at this
  unfold upTo at h
  rw [List.getElem?_map, List.getElem?_range hi] at h
  cases h
  exact ⟨hi, rfl⟩
theorem wk_range {K : PySem.W.Frag} (lo : Int) (n : Nat) : Wk K H (Itr lo n) (upTo lo n) := ⟨fun _ i _ hi => by rw [upTo_len] at hi; exact hi, fun _ i x _ _ hy => by
  obtain ⟨rfl, rfl⟩ := hy
  refine ⟨Ex.refl _, fun d hd => ?_⟩
  obtain ⟨_, rfl⟩ := upTo_get hd
  exact .int _, fun _ _ => by rw [upTo_len]; exact Nat.le_refl _⟩
theorem di_range1 {pr : Pos} (hm : C.X.mg "range" = none) (hg : Gl C.X "range") (h : DE C ρ a fun ev ρ1 => ∃ n : Int, ev = .dat (.int n) ∧ -(2 ^ 62) ≤ n ∧ n < 2 ^ 62 ∧ kl (upTo 0 n.toNat) ρ1) (hs : starEach [a] C.X.env = [(false, eval a C.X.env)] := by rfl) : DI C ρ tg (.Call (.Name "range" p) [a] [] pr) kl := fun σ H R r g => by
  refine WI.of (pi_range1 hg hm (pa_cons WE.pe pa_nil hs) hs) ?_
  refine h σ H _ r fun v ev ρ1 H1 k1 r1 o1 h1 => ?_
  obtain ⟨n, rfl, b1, b2, hk⟩ := h1
  cases (Mp.rp o1).int
  exact ⟨n, rfl, b1, b2, g _ _ ρ1 H1 k1 r1 (wk_range 0 n.toNat) hk⟩
theorem di_range2 {pr : Pos} (hm : C.X.mg "range" = none) (hg : Gl C.X "range") (h : DA C ρ [a, b] fun evs ρ1 => ∃ lo hi : Int, evs = [.dat (.int lo), .dat (.int hi)] ∧ (-(2 ^ 62) ≤ lo ∧ lo < 2 ^ 62 ∧ -(2 ^ 62) ≤ hi ∧ hi < 2 ^ 62) ∧ kl (upTo lo (hi - lo).toNat) ρ1)
    (hs : starEach [a, b] C.X.env = [(false, eval a C.X.env), (false, eval b C.X.env)] := by rfl) (hs2 : starEach [b] C.X.env = [(false, eval b C.X.env)] := by rfl) : DI C ρ tg (.Call (.Name "range" p) [a, b] [] pr) kl := fun σ H R r g => by
  refine WI.of (pi_range2 hg hm WA.pa hs hs2) ?_
  refine h σ H _ r fun vs evs ρ1 H1 k1 r1 o1 h1 => ?_
  obtain ⟨lo, hi, rfl, b1, hk⟩ := h1
  cases o1 with
  | cons q1 q2 =>
    cases q2 with
    | cons q2 q3 =>
      cases q3
      cases (Mp.rp q1).int
      cases (Mp.rp q2).int
      exact ⟨lo, hi, rfl, b1, g _ _ ρ1 H1 k1 r1 (wk_range lo _) hk⟩
/-- range(a, b, -1) -/
def downFrom (lo : Int) (n : Nat) : List PyData := (List.range n).map fun (i : Nat) => .int (lo - i)
theorem downFrom_len (lo : Int) (n : Nat) : (downFrom lo n).length = n := by unfold downFrom; rw [List.length_map, List.length_range]
theorem downFrom_get {lo : Int} {n i : Nat} {d : PyData} (h : (downFrom lo n)[i]? = some d) : i < n ∧ d = .int (lo - i) := by
  have hi : i < n := by
    have := (List.getElem?_eq_some_iff.mp h).1
    rwa [downFrom_len] at this
  unfold downFrom at h
  rw [List.getElem?_map, List.getElem?_range hi] at h
  cases h
  exact ⟨hi, rfl⟩
theorem wk_down {K : PySem.W.Frag} (lo : Int) (n : Nat) : Wk K H (Itc lo (-1) n) (downFrom lo n) := ⟨fun _ i _ hi => by rw [downFrom_len] at hi; exact hi, fun _ i x _ _ hy => by
  obtain ⟨rfl, rfl⟩ := hy
  refine ⟨Ex.refl _, fun d hd => ?_⟩
  obtain ⟨_, rfl⟩ := downFrom_get hd
  have e : lo + (i : Int) * (-1) = lo - i := by omega
  rw [e]
  exact .int _, fun _ _ => by rw [downFrom_len]; exact Nat.le_refl _⟩
theorem di_str (h : DE C ρ iter fun ev ρ1 => ∃ x : Str, ev = .dat (.str x) ∧ kl (x.cps.toList.map fun c => .str ⟨#[c]⟩) ρ1) : DI C ρ tg iter kl := fun σ H R r g => by
  refine WI.of (pi_str WE.pe) ?_
  refine h σ H _ r fun v ev ρ1 H1 k1 r1 o1 h1 => ?_
  obtain ⟨x, rfl, hk⟩ := h1
  cases (Mp.rp o1).str
  refine ⟨x, rfl, g _ _ ρ1 H1 k1 r1 ⟨fun H2 i k2 hi => ?_, fun H2 i y H3 k2 hy => ?_, fun H2 k2 => ?_⟩ hk⟩
  · rw [List.length_map, Array.length_toList] at hi
    exact hi
  · obtain ⟨rfl, c, hc, rfl⟩ := hy
    refine ⟨Ex.refl _, fun d hd => ?_⟩
    rw [List.getElem?_map, Array.getElem?_toList, hc] at hd
    cases hd
    exact .str _
  · rw [List.length_map, Array.length_toList]
    exact Nat.le_refl _

/-! ### for -/
theorem ds_for (h : DI C ρ tg iter fun ds ρ1 => ∃ I : Nat → Rho → Prop, I 0 ρ1 ∧ (∀ i d ρ2, ds[i]? = some d → I i ρ2 → DGo C ρ2 tg d fun ρ3 => DB C ρ3 body (I (i + 1)) rt nx (I (i + 1))) ∧ ∀ ρ2, I ds.length ρ2 → nx ρ2)
    (hc : C.X.calm = true := by rfl) (hp : PassesOwn (model C.X.prog C.X.w) C.X.A C.X.env C.X.xe := by exact PassesOwn.never)
    (hf : ∀ wi g tb, PI C.X tg iter wi → PG C.X tg g → PSs C.X body tb → PS C.X (.For tg iter body [] pos) (tFor wi g tb) := by exact fun _ _ _ hi hg hb => ps_for (by exact PassesOwn.never) rfl hi hg hb) :
    DS C ρ (.For tg iter body [] pos) nx rt bk ct := fun σ H E r ac => by
  refine WS.of (hf _ _ _ WI.pi WG.pg WB.pss) ?_
  refine h σ H _ r fun J ds ρ1 H1 k1 r1 w h1 => ?_
  obtain ⟨I, i0, hs, hd⟩ := h1
  refine ⟨fun i m σ' H' => i + m = ds.length ∧ ∃ ρ', I i ρ' ∧ C.Rs ρ' σ' H' ∧ KT H1 H', ⟨ds.length, Nat.zero_add _, ρ1, i0, r1, KT.refl H1⟩, fun i m σ2 H2 ⟨em, ρ2, i2, r2, k2⟩ => ?_⟩
  by_cases hi : i < ds.length
  · refine .inr ⟨w.go H2 i k2 hi, fun σ3 H3 => ∃ ρ3, I (i + 1) ρ3 ∧ C.Rs ρ3 σ3 H3 ∧ KT H1 H3, fun σ3 H3 z => ⟨m - 1, by omega, by omega, z⟩, fun x H3 hy => ?_⟩
    obtain ⟨ex, hx⟩ := w.yld H2 i x H3 k2 hy
    have hgd := hs i ds[i] ρ2 (List.getElem?_eq_getElem hi) i2
    refine hgd σ2 H3 x _ (r2.ex ex) (hx _ (List.getElem?_eq_getElem hi)) fun ρ4 σ4 r4 q4 => ?_
    have k3 := k2.trans ex.kt
    exact q4 σ4 H3 _ r4 ⟨fun ρ5 σ5 H5 k5 r5 q5 => ⟨ρ5, q5, r5, k3.trans k5⟩, fun v rv H5 k5 fr ok q => ac.rt v rv H5 ((k1.trans k3).trans k5) fr ok q,
      fun ρ5 σ5 H5 k5 r5 q => ac.nx ρ5 σ5 H5 ((k1.trans k3).trans k5) r5 q, fun ρ5 σ5 H5 k5 r5 q5 => ⟨ρ5, q5, r5, k3.trans k5⟩⟩
  · have e : i = ds.length := by omega
    subst e
    exact .inl ⟨w.stop H2 k2, ac.nx ρ2 σ2 H2 (k1.trans k2) r2 (hd ρ2 i2)⟩
end
end DW
namespace DW
open PySem L2
section
variable {C : DC} {K : PySem.W.Frag} {H0 : Hp} {dr : Option Addr} {ρ ρ' : Rho} {σ τ : St} {H H' : Hp} {e a b c iter elt : Expr} {es : List Expr} {pos p apos cpos px : Pos} {k : EV → Rho → Prop} {kd : PyData → Prop} {kl : List PyData → Rho → Prop} {nx : Rho → Prop} {rt : RV → Prop} {bk ct : Rho → Prop} {kt : Bool → Rho → Prop} {tg : Expr}

/-! ### a list in the making, that no slot knows -/
def pin (H0 : Hp) (p : Addr) (o : HO) : Hp := fun b => if b = p then some o else H0 b
theorem pin_same {o : HO} {p : Addr} : pin H0 p o p = some o := by unfold pin; rw [if_pos rfl]
theorem pin_ne {o : HO} {p q : Addr} (h : q ≠ p) : pin H0 p o q = H0 q := by unfold pin; rw [if_neg h]
theorem own_ne {l p : Addr} {i : Nat} {sv : SV} (n : New H0 dr ρ σ p) (r : Rs K H0 dr ρ σ H) (h : ρ[i]? = some sv) (ho : sv.isOwn = true) (e : σ[i]?.join = some (.ref l)) : l ≠ p := fun z => by
  subst z
  have h1 : i < ρ.length := (List.getElem?_eq_some_iff.mp h).1
  rw [← r.len] at h1
  have hw := List.getElem?_eq_getElem h1
  rw [hw] at e
  exact n.s i sv h ho (by rw [hw, show σ[i] = some (.ref l) from e])
theorem rs_pin {q : Addr} {vs : List V} (r : Rs K H0 dr ρ σ H) (n : New H0 dr ρ σ q) (hq : H q = some (.lst vs)) : Rs K (pin H0 q (.lst vs)) dr ρ σ H := by
  refine ⟨⟨fun b o h hd => ?_, ⟨fun b xs h => ?_, fun b o u h => ?_⟩, r.fr.drw⟩, r.len, fun i sv h => ?_, r.sep⟩
  · by_cases hb : b = q
    · subst hb
      rw [pin_same] at h
      cases h
      exact hq
    · rw [pin_ne hb] at h
      exact r.fr.ext b o h hd
  · by_cases hb : b = q
    · subst hb
      rw [pin_same] at h
      cases h
    · rw [pin_ne hb] at h
      exact r.fr.kt.t b xs h
  · by_cases hb : b = q
    · subst hb
      rw [pin_same] at h
      cases h
    · rw [pin_ne hb] at h
      exact r.fr.kt.f b o u h
  · have hs := r.sl i sv h
    cases sv with
    | no => exact True.intro
    | dat d => exact hs
    | own ds =>
      obtain ⟨l, h1, h2, h3, ws, h4, h5⟩ := hs
      exact ⟨l, h1, by rw [pin_ne (own_ne n r h rfl h1)]; exact h2, h3, ws, h4, h5⟩
    | dic ds =>
      obtain ⟨l, h1, h2, h3, ws, h4, h5⟩ := hs
      exact ⟨l, h1, by rw [pin_ne (own_ne n r h rfl h1)]; exact h2, h3, ws, h4, h5⟩
    | drw => exact hs
    | scr ns => exact hs
theorem rs_unpin {q : Addr} {vs : List V} (r : Rs K (pin H0 q (.lst vs)) dr ρ σ H) (n1 : H0 q = none) (n2 : dr ≠ some q) : Rs K H0 dr ρ σ H ∧ H q = some (.lst vs) ∧ New H0 dr ρ σ q := by
  have hne : ∀ b o, H0 b = some o → b ≠ q := fun b o h z => by rw [z, n1] at h; cases h
  have hq := r.fr.ext q _ pin_same n2
  refine ⟨⟨⟨fun b o h hd => r.fr.ext b o (by rw [pin_ne (hne b o h)]; exact h) hd, ⟨fun b xs h => r.fr.kt.t b xs (by rw [pin_ne (hne b _ h)]; exact h), fun b o u h => r.fr.kt.f b o u (by rw [pin_ne (hne b _ h)]; exact h)⟩, r.fr.drw⟩, r.len, fun i sv h => ?_, r.sep⟩, hq, ⟨n1, n2, fun i sv h ho e => ?_⟩⟩
  · have hs := r.sl i sv h
    cases sv with
    | no => exact True.intro
    | dat d => exact hs
    | own ds =>
      obtain ⟨l, h1, h2, h3, ws, h4, h5⟩ := hs
      have hl : l ≠ q := fun z => by rw [z, pin_same] at h2; cases h2
      exact ⟨l, h1, by rw [pin_ne hl] at h2; exact h2, h3, ws, h4, h5⟩
    | dic ds =>
      obtain ⟨l, h1, h2, h3, ws, h4, h5⟩ := hs
      have hl : l ≠ q := fun z => by rw [z, pin_same] at h2; cases h2
      exact ⟨l, h1, by rw [pin_ne hl] at h2; exact h2, h3, ws, h4, h5⟩
    | drw => exact hs
    | scr ns => exact hs
  · have hs := r.sl i sv h
    cases sv with
    | own ds =>
      obtain ⟨l, h1, h2, _⟩ := hs
      rw [e] at h1
      cases h1
      rw [pin_same] at h2
      cases h2
    | dic ds =>
      obtain ⟨l, h1, h2, _⟩ := hs
      rw [e] at h1
      cases h1
      rw [pin_same] at h2
      cases h2
    | no => cases ho
    | dat d => cases ho
    | drw => cases ho
    | scr ns => cases ho
theorem rs_other {q : Addr} {vs vs' : List V} (r : Rs K H0 dr ρ σ H) (n : New H0 dr ρ σ q) (hq : H q = some (.lst vs)) : Rs K H0 dr ρ σ (L2.upd H q (.lst vs')) := by
  have kt : KT H (L2.upd H q (.lst vs')) := KT.lst hq
  refine ⟨⟨fun b w h hd => ?_, r.fr.kt.trans kt, fun a h => ?_⟩, r.len, fun i sv h => ?_, r.sep⟩
  · rw [upd_ne (fun z => by rw [z, n.e] at h; cases h)]
    exact r.fr.ext b w h hd
  · obtain ⟨g, m, c, z, t⟩ := r.fr.drw a h
    exact ⟨g, m, c, by
      rw [upd_ne (fun z => n.d (by rw [h, z]))]
      exact z, t⟩
  · have hs := r.sl i sv h
    cases sv with
    | no => exact True.intro
    | dat d =>
      obtain ⟨x, h1, h2⟩ := hs
      exact ⟨x, h1, h2.kt kt⟩
    | own ds =>
      obtain ⟨l, h1, h2, h3, ws, h4, h5⟩ := hs
      exact ⟨l, h1, h2, h3, ws, by rw [upd_ne (own_ne n r h rfl h1)]; exact h4, h5.kt kt⟩
    | dic ds =>
      obtain ⟨l, h1, h2, h3, ws, h4, h5⟩ := hs
      exact ⟨l, h1, h2, h3, ws, by rw [upd_ne (own_ne n r h rfl h1)]; exact h4, h5.kt kt⟩
    | drw => exact hs
    | scr ns =>
      obtain ⟨a, h1, h2⟩ := hs
      exact ⟨a, h1, h2.kt kt⟩
/-- a slot of which nothing is known may hold anything -/
theorem rs_slot {j : Nat} (r : Rs K H0 dr ρ σ H) (hl : τ.length = σ.length) (he : ∀ i, i ≠ j → τ[i]? = σ[i]?) : Rs K H0 dr (ρ.set j .no) τ H := by
  refine ⟨r.fr, by rw [List.length_set, hl]; exact r.len, fun i sv h => ?_, fun i1 i2 s1 s2 l h1 h2 o1 o2 e1 e2 => ?_⟩
  · by_cases hi : j = i
    · subst hi
      have hj : j < ρ.length := by
        have := (List.getElem?_eq_some_iff.mp h).1
        rwa [List.length_set] at this
      rw [List.getElem?_set_self hj] at h
      cases h
      exact True.intro
    · rw [List.getElem?_set_ne hi] at h
      rw [he i (fun z => hi z.symm)]
      exact r.sl i sv h
  · have n1 : j ≠ i1 := fun z => by
      subst z
      have hj : j < ρ.length := by
        have := (List.getElem?_eq_some_iff.mp h1).1
        rwa [List.length_set] at this
      rw [List.getElem?_set_self hj] at h1
      cases h1
      cases o1
    have n2 : j ≠ i2 := fun z => by
      subst z
      have hj : j < ρ.length := by
        have := (List.getElem?_eq_some_iff.mp h2).1
        rwa [List.length_set] at this
      rw [List.getElem?_set_self hj] at h2
      cases h2
      cases o2
    rw [List.getElem?_set_ne n1] at h1
    rw [List.getElem?_set_ne n2] at h2
    rw [he i1 (fun z => n1 z.symm)] at e1
    rw [he i2 (fun z => n2 z.symm)] at e2
    exact r.sep i1 i2 s1 s2 l h1 h2 o1 o2 e1 e2
theorem set_no {j : Nat} (h : ρ[j]? = some .no) : ρ.set j .no = ρ := by
  apply List.ext_getElem?
  intro i
  by_cases hi : j = i
  · subst hi
    rw [List.getElem?_set_self (List.getElem?_eq_some_iff.mp h).1, h]
  · rw [List.getElem?_set_ne hi]

/-! ### a list comprehension -/
abbrev blkX (X : Cx) (scope : Scope) (s : Shared) (H : Hp) (C0 : Addr) (cl : List (Str × Addr)) (fp : List Addr) : Cx := X.blk s H scope (compEnvC scope cl C0 X.env) fp
def WEb (X : Cx) (scope : Scope) (e : Expr) : TE := fun σ H Q => ∀ s H0 C0 cl fp, WE (blkX X scope s H0 C0 cl fp) e σ H Q
def WTb (X : Cx) (scope : Scope) (e : Expr) : TT := fun σ H Q => ∀ s H0 C0 cl fp, WT (blkX X scope s H0 C0 cl fp) e σ H Q
theorem lc_core {scope : Scope} {j : Nat} {tt : TT} {te : TE} {J : It} {H1 : Hp} {ds : List PyData} {ρ1 : Rho} {Q : VK} (r : C.Rs ρ1 σ H1) (w : Wk C.X.K H1 J ds) (hno : ρ1[j]? = some .no) (hz : ds.length < sizeLine)
    (g : ∀ q vs zs ρ2 H2, KT H1 H2 → C.Rs ρ2 σ H2 → New C.H0 C.dr ρ2 σ q → H2 q = some (.lst vs) → C.RpL H2 vs zs → kl zs ρ2 → Q (.ref q) H2)
    (I : Nat → List PyData → Rho → Prop) (i0 : I 0 [] ρ1) (hd : ∀ acc ρ2, I ds.length acc ρ2 → kl acc ρ2)
    (hs : ∀ i d acc ρ2, ds[i]? = some d → I i acc ρ2 → ∀ Hx σ2 H2 (Qt : Bool → Hp → Prop), Rs C.X.K Hx C.dr (ρ2.set j (.dat d)) σ2 H2 → (∀ b ρ3 H3, KT H2 H3 → Rs C.X.K Hx C.dr ρ3 σ2 H3 → (b = true → ∀ (Qe : VK), (∀ v d' ρ4 H4, KT H3 H4 → Rs C.X.K Hx C.dr ρ4 σ2 H4 → Rp C.X.K H4 v d' → I (i + 1) (acc ++ [d']) (ρ4.set j .no) → Qe v H4) → te σ2 H3 Qe) →
        (b = false → I (i + 1) acc (ρ3.set j .no)) → Qt b H3) → tt σ2 H2 Qt) :
    ∀ q, H1 q = none → ∃ W : Nat → Nat → Hp → Prop, (∃ m, W 0 m (L2.upd H1 q (.lst []))) ∧ ∀ i m H, W i m H →
      (J.stop i H ∧ Q (.ref q) H) ∨ (J.go i H ∧ ∃ Nx : Hp → Prop, (∀ H', Nx H' → ∃ m', m' < m ∧ W (i + 1) m' H') ∧ ∀ x H', J.yld i H x H' → gName j x (wipe σ [j]) H' fun σ2 H2 => wipe σ2 [j] = wipe σ [j] ∧ tt σ2 H2 fun b H3 =>
        if b = true then te σ2 H3 fun y H4 => ∃ acc, H4 q = some (.lst acc) ∧ acc.length < sizeLine ∧ Nx (L2.upd H4 q (.lst (acc ++ [y]))) else Nx H3) := by
  intro q nq
  have hj : j < ρ1.length := (List.getElem?_eq_some_iff.mp hno).1
  have hjσ : j < σ.length := by rw [r.len]; exact hj
  have new1 : New C.H0 C.dr ρ1 σ q := New.of_none r nq
  have ex1 : Ex H1 (L2.upd H1 q (.lst [])) := Ex.new nq
  refine ⟨fun i m H2 => i + m = ds.length ∧ KT H1 H2 ∧ ∃ acc vs ρ2, I i acc ρ2 ∧ acc.length ≤ i ∧ ρ2[j]? = some .no ∧ C.Rs ρ2 σ H2 ∧ New C.H0 C.dr ρ2 σ q ∧ H2 q = some (.lst vs) ∧ C.RpL H2 vs acc,
    ⟨ds.length, Nat.zero_add _, ex1.kt, [], [], ρ1, i0, Nat.le_refl _, hno, r.ex ex1, new1, upd_same, .nil⟩, fun i m H2 ⟨em, k2, acc, vs, ρ2, i2, al, no2, r2, n2, hq, hl⟩ => ?_⟩
  by_cases hi : i < ds.length
  · refine .inr ⟨w.go H2 i k2 hi, fun H3 => KT H1 H3 ∧ ∃ acc vs ρ2, I (i + 1) acc ρ2 ∧ acc.length ≤ i + 1 ∧ ρ2[j]? = some .no ∧ C.Rs ρ2 σ H3 ∧ New C.H0 C.dr ρ2 σ q ∧ H3 q = some (.lst vs) ∧ C.RpL H3 vs acc, fun H3 z => ⟨m - 1, by omega, by omega, z⟩, fun x H3 hy => ?_⟩
    obtain ⟨ex, hx⟩ := w.yld H2 i x H3 k2 hy
    have hxd := hx _ (List.getElem?_eq_getElem hi)
    have r3 := r2.ex ex
    have hq3 := ex q _ hq
    have l2 : j < ρ2.length := (List.getElem?_eq_some_iff.mp no2).1
    have hw : wipe σ [j] = σ.set j none := rfl
    show wipe (((wipe σ [j]).set j (some x))) [j] = wipe σ [j] ∧ _
    refine ⟨by rw [hw]; show ((σ.set j none).set j (some x)).set j none = σ.set j none; rw [List.set_set, List.set_set], ?_⟩
    -- the turn, with the list in the making pinned
    have rp := rs_pin r3 n2 hq3
    have rs1 : Rs C.X.K (pin C.H0 q (.lst vs)) C.dr (ρ2.set j .no) (σ.set j none) H3 := rs_slot rp (List.length_set ..) fun i hi => List.getElem?_set_ne (fun z => hi z.symm)
    rw [set_no no2] at rs1
    have rs2 : Rs C.X.K (pin C.H0 q (.lst vs)) C.dr (ρ2.set j (.dat ds[i])) ((σ.set j none).set j (some x)) H3 := Rs.setD (C := ⟨C.X, pin C.H0 q (.lst vs), C.dr⟩) rs1 hxd
    have back : ∀ {ρ4 : Rho} {H4 : Hp}, Rs C.X.K (pin C.H0 q (.lst vs)) C.dr ρ4 ((σ.set j none).set j (some x)) H4 → C.Rs (ρ4.set j .no) σ H4 ∧ H4 q = some (.lst vs) ∧ New C.H0 C.dr (ρ4.set j .no) σ q ∧ (ρ4.set j .no)[j]? = some .no := fun {ρ4 H4} r4 => by
      have r5 : Rs C.X.K (pin C.H0 q (.lst vs)) C.dr (ρ4.set j .no) σ H4 := rs_slot r4 (by rw [List.length_set, List.length_set]) fun i hi => by rw [List.getElem?_set_ne (fun z => hi z.symm), List.getElem?_set_ne (fun z => hi z.symm)]
      obtain ⟨a1, a2, a3⟩ := rs_unpin r5 n2.e n2.d
      refine ⟨a1, a2, a3, List.getElem?_set_self ?_⟩
      have := r4.len
      rw [List.length_set, List.length_set] at this
      omega
    refine hs i ds[i] acc ρ2 (List.getElem?_eq_getElem hi) i2 _ _ H3 _ rs2 fun b ρ4 H4 k4 r4 ht hf => ?_
    have k34 := (k2.trans ex.kt).trans k4
    cases b with
    | false =>
      refine iteF ?_
      obtain ⟨a1, a2, a3, a4⟩ := back r4
      exact ⟨k34, acc, vs, ρ4.set j .no, hf rfl, by omega, a4, a1, a3, a2, hl.kt (ex.kt.trans k4)⟩
    | true =>
      refine iteT ?_
      refine ht rfl _ fun v d' ρ5 H5 k5 r5 rpv hI => ?_
      obtain ⟨a1, a2, a3, a4⟩ := back r5
      have hl5 : C.RpL H5 vs acc := hl.kt ((ex.kt.trans k4).trans k5)
      refine ⟨vs, a2, by rw [hl5.length]; omega, (k34.trans k5).trans (KT.lst a2), acc ++ [d'], vs ++ [v], ρ5.set j .no, hI, by rw [List.length_append, List.length_singleton]; omega, a4, rs_other a1 a3 a2, a3, upd_same, (hl5.snoc rpv).kt (KT.lst a2)⟩
  · have ei : i = ds.length := by omega
    subst ei
    exact .inl ⟨w.stop H2 k2, g q vs acc ρ2 H2 k2 r2 n2 hq hl (hd acc ρ2 i2)⟩
theorem dl_lc {scope : Scope} {x : Str} {j : Nat} (h : DI C ρ (.Name x px) iter fun ds ρ1 => ρ1[j]? = some .no ∧ ds.length < sizeLine ∧ ∃ I : Nat → List PyData → Rho → Prop, I 0 [] ρ1 ∧
      (∀ i d acc ρ2, ds[i]? = some d → I i acc ρ2 → ∀ s H0 C0 cl fp Hx, DE ⟨blkX C.X scope s H0 C0 cl fp, Hx, C.dr⟩ (ρ2.set j (.dat d)) elt fun ev ρ3 => ∃ d', ev = .dat d' ∧ I (i + 1) (acc ++ [d']) (ρ3.set j .no)) ∧ ∀ acc ρ2, I ds.length acc ρ2 → kl acc ρ2)
    (ok : BlkOk C.X.N C.X.env.scope scope [(x, j)]) (hN : C.X.N.Nodup)
    (hg : ∀ s H0 C0 cl fp, PG (blkX C.X scope s H0 C0 cl fp) (.Name x px) (gName j))
    (hc : C.X.calm = true := by rfl) (hs : ∀ x, foldedSetIterable iter C.X.env x = pure x := by intro _; rfl) :
    DL C ρ (.ListComp elt [⟨.Name x px, iter, [], 0⟩] scope pos) kl := fun σ H Q r g => by
  refine WE.of (pe_lc (own := [(x, j)]) hc hN WI.pi ok hg (fun _ _ _ _ _ => pts_nil) (fun s H0 C0 cl fp => (⟨fun pins s' σ H Q I h => h s H0 C0 cl fp pins s' I⟩ : PE (blkX C.X scope s H0 C0 cl fp) elt (WEb C.X scope elt))) hs) ?_
  refine h σ H _ r fun J ds ρ1 H1 k1 r1 w h1 => ?_
  obtain ⟨hno, hz, I, i0, hst, hd⟩ := h1
  refine lc_core (scope := scope) r1 w hno hz (fun q vs zs ρ2 H2 k2 r2 n2 hq hl hk => g q vs zs ρ2 H2 (k1.trans k2) r2 n2 hq hl hk) I i0 hd fun i d acc ρ2 hdi hI Hx σ2 H2 Qt r2 hq => ?_
  refine hq true _ H2 (KT.refl H2) r2 (fun _ Qe hQe => fun s H0 C0 cl fp => ?_) (fun z => nomatch z)
  refine hst i d acc ρ2 hdi hI s H0 C0 cl fp Hx σ2 H2 Qe r2 fun v ev ρ3 H3 k3 r3 o3 h3 => ?_
  obtain ⟨d', rfl, h3⟩ := h3
  exact hQe v d' ρ3 H3 k3 r3 o3 h3
theorem dl_lcIf {scope : Scope} {x : Str} {j : Nat} (h : DI C ρ (.Name x px) iter fun ds ρ1 => ρ1[j]? = some .no ∧ ds.length < sizeLine ∧ ∃ I : Nat → List PyData → Rho → Prop, I 0 [] ρ1 ∧
      (∀ i d acc ρ2, ds[i]? = some d → I i acc ρ2 → ∀ s H0 C0 cl fp Hx, DT ⟨blkX C.X scope s H0 C0 cl fp, Hx, C.dr⟩ (ρ2.set j (.dat d)) c fun t ρ3 => (t = true → ∀ s H0 C0 cl fp, DE ⟨blkX C.X scope s H0 C0 cl fp, Hx, C.dr⟩ ρ3 elt fun ev ρ4 => ∃ d', ev = .dat d' ∧ I (i + 1) (acc ++ [d']) (ρ4.set j .no)) ∧ (t = false → I (i + 1) acc (ρ3.set j .no))) ∧ ∀ acc ρ2, I ds.length acc ρ2 → kl acc ρ2)
    (ok : BlkOk C.X.N C.X.env.scope scope [(x, j)]) (hN : C.X.N.Nodup)
    (hg : ∀ s H0 C0 cl fp, PG (blkX C.X scope s H0 C0 cl fp) (.Name x px) (gName j))
    (hc : C.X.calm = true := by rfl) (hs : ∀ x, foldedSetIterable iter C.X.env x = pure x := by intro _; rfl) :
    DL C ρ (.ListComp elt [⟨.Name x px, iter, [c], 0⟩] scope pos) kl := fun σ H Q r g => by
  refine WE.of (pe_lc (own := [(x, j)]) hc hN WI.pi ok hg (fun s H0 C0 cl fp => pts_one (⟨fun pins s' σ H Q I h => h s H0 C0 cl fp pins s' I⟩ : PT (blkX C.X scope s H0 C0 cl fp) c (WTb C.X scope c)))
    (fun s H0 C0 cl fp => (⟨fun pins s' σ H Q I h => h s H0 C0 cl fp pins s' I⟩ : PE (blkX C.X scope s H0 C0 cl fp) elt (WEb C.X scope elt))) hs) ?_
  refine h σ H _ r fun J ds ρ1 H1 k1 r1 w h1 => ?_
  obtain ⟨hno, hz, I, i0, hst, hd⟩ := h1
  refine lc_core (scope := scope) r1 w hno hz (fun q vs zs ρ2 H2 k2 r2 n2 hq hl hk => g q vs zs ρ2 H2 (k1.trans k2) r2 n2 hq hl hk) I i0 hd fun i d acc ρ2 hdi hI Hx σ2 H2 Qt r2 hq => ?_
  intro s H0 C0 cl fp
  refine hst i d acc ρ2 hdi hI s H0 C0 cl fp Hx σ2 H2 Qt r2 fun t ρ3 H3 k3 r3 h3 => ?_
  refine hq t ρ3 H3 k3 r3 (fun ht Qe hQe => fun s H0 C0 cl fp => ?_) (fun hf => h3.2 hf)
  refine h3.1 ht s H0 C0 cl fp σ2 H3 Qe r3 fun v ev ρ4 H4 k4 r4 o4 h4 => ?_
  obtain ⟨d', rfl, h4⟩ := h4
  exact hQe v d' ρ4 H4 k4 r4 o4 h4
end
end DW
namespace DW
open PySem L2 PyProof.Rows

section
variable {prog : Program} {w : World} {A : Around} {E : Value → Shared → Prop} {s : Shared}
/-- t[:hi:-1], hi left out or 0 -/
def revCut {α : Type} (xs : List α) (hi : Option Int) : List α := if hi = none then xs.reverse else (xs.drop 1).reverse
theorem rev_pick (xs : Array Value) (hi : Option Int) (hh : hi = none ∨ hi = some 0) :
    ((List.range (Builtin.Slice.slicePlaces (Builtin.Slice.sliceAdjust none hi (-1) (xs.size : Int)).1 (Builtin.Slice.sliceAdjust none hi (-1) (xs.size : Int)).2 (-1))).filterMap fun (m : Nat) => xs[((Builtin.Slice.sliceAdjust none hi (-1) (xs.size : Int)).1 + (m : Int) * (-1)).toNat]?).toArray = (revCut xs.toList hi).toArray := by
  have h1 : (Builtin.Slice.sliceAdjust none hi (-1) (xs.size : Int)).1 = (xs.size : Int) - 1 := by rcases hh with rfl | rfl <;> rfl
  have key : ∀ n, n ≤ xs.size → (List.range n).filterMap (fun (m : Nat) => xs[((xs.size : Int) - 1 + (m : Int) * (-1)).toNat]?) = (xs.toList.drop (xs.size - n)).reverse := by
    intro n
    induction n with
    | zero =>
      intro _
      rw [Nat.sub_zero, List.drop_eq_nil_of_le (by simp)]
      rfl
    | succ n ih =>
      intro hn
      have hlt : xs.size - (n + 1) < xs.toList.length := by simp; omega
      rw [List.range_succ, List.filterMap_append, ih (by omega), List.drop_eq_getElem_cons hlt, List.reverse_cons, show xs.size - (n + 1) + 1 = xs.size - n by omega]
      congr 1
      have e : ((xs.size : Int) - 1 + (n : Int) * (-1)).toNat = xs.size - (n + 1) := by omega
      have hlt2 : xs.size - (n + 1) < xs.size := by simpa using hlt
      show List.filterMap (fun (m : Nat) => xs[((xs.size : Int) - 1 + (m : Int) * (-1)).toNat]?) [n] = _
      rw [List.filterMap_cons, e, Array.getElem?_eq_getElem hlt2]
      rfl
  rw [h1]
  rcases hh with rfl | rfl
  · have h2 : (Builtin.Slice.sliceAdjust none none (-1) (xs.size : Int)).2 = -1 := rfl
    have h3 : Builtin.Slice.slicePlaces ((xs.size : Int) - 1) (-1) (-1) = xs.size := by
      unfold Builtin.Slice.slicePlaces
      rw [if_neg (by decide)]
      split
      · rw [Int.neg_neg, Int.ediv_one]; omega
      · omega
    rw [h2, h3, key _ (Nat.le_refl _), Nat.sub_self]
    rfl
  · have h2 : (Builtin.Slice.sliceAdjust none (some 0) (-1) (xs.size : Int)).2 = min 0 ((xs.size : Int) - 1) := rfl
    have h3 : Builtin.Slice.slicePlaces ((xs.size : Int) - 1) (min 0 ((xs.size : Int) - 1)) (-1) = xs.size - 1 := by
      unfold Builtin.Slice.slicePlaces
      rw [if_neg (by decide)]
      split
      · rw [Int.neg_neg, Int.ediv_one]; omega
      · omega
    rw [h2, h3, key _ (by omega)]
    by_cases h0 : xs.size = 0
    · have : xs.toList = [] := by simpa using h0
      simp [revCut, this]
    · rw [show xs.size - (xs.size - 1) = 1 by omega]
      rfl
theorem sliceApplied_rev {sl : Addr} {vl vu vs : Value} {hi : Option Int} {n : Nat} {Q : Int × Int × Nat → Shared → Prop} (hs : s.heap.IsSliceOf sl vl vu vs) (pl : IsPart vl none) (pu : IsPart vu hi) (pst : IsPart vs (some (-1)))
    (h : Q ((Builtin.Slice.sliceAdjust none hi (-1) (n : Int)).1, -1, Builtin.Slice.slicePlaces (Builtin.Slice.sliceAdjust none hi (-1) (n : Int)).1 (Builtin.Slice.sliceAdjust none hi (-1) (n : Int)).2 (-1)) s) : wpAny (model prog w) A (Builtin.Slice.sliceApplied (.ref sl) (pure (n : Int))) Q E s := by
  obtain ⟨os, hos, hcs, hds⟩ := id hs
  unfold Builtin.Slice.sliceApplied Builtin.Slice.sliceFields
  refine wpAny_bind (wpAny_bind (wpAny_field hos hds (x := vl) rfl (wpAny_bind (wpAny_field hos hds (x := vu) rfl (wpAny_bind (wpAny_field hos hds (x := vs) rfl (wpAny_pure ?_)))))))
  refine wpAny_bind (HT.slicePart_ pst ?_)
  show wpAny _ _ (if ((-1 : Int) == 0) = true then _ else _) _ _ s
  rw [if_neg (by decide)]
  refine wpAny_bind (HT.slicePart_ pl (wpAny_bind (HT.slicePart_ pu (wpAny_bind (wpAny_pure ?_)))))
  show wpAny _ _ (match Builtin.Slice.sliceAdjust none hi (-1) (n : Int) with | (lo, hi) => pure (lo, (-1 : Int), Builtin.Slice.slicePlaces lo hi (-1))) _ _ s
  exact wpAny_pure h
theorem getItem_tuple_rev {t sl : Addr} {items : Array Value} {vl vu vs : Value} {hi : Option Int} {Q : Value → Shared → Prop} (ht : IsTup s.heap t items) (hs : s.heap.IsSliceOf sl vl vu vs) (pl : IsPart vl none) (pu : IsPart vu hi) (pst : IsPart vs (some (-1))) (hh : hi = none ∨ hi = some 0)
    (h : Q (.ref s.heap.objs.size) { s with heap := s.heap.push { cls := .type "tuple", data := .seq (revCut items.toList hi).toArray } })
    (hsz : items.size ≤ sizeLine) : wpAny (model prog w) A (getItem (.ref t) (.ref sl)) Q E s := by
  have htake : sizeOk (.seq (revCut items.toList hi).toArray) := by
    show (revCut items.toList hi).toArray.size ≤ sizeLine
    rw [List.size_toArray]
    rcases hh with rfl | rfl
    · show (items.toList.reverse).length ≤ _
      rw [List.length_reverse, Array.length_toList]
      exact hsz
    · show ((items.toList.drop 1).reverse).length ≤ _
      rw [List.length_reverse, List.length_drop, Array.length_toList]
      omega
  obtain ⟨os, hos, hcs, hds⟩ := id hs
  have hTs : s.TypeIs (.ref sl) "slice" := ⟨os, hos, hcs⟩
  unfold getItem
  try with_reducible refine wpAny_holding ?_
  first | refine wpAny_bind (wpAny_pure ?_) | skip
  refine wpAny_bind (wpAny_sequenceKey ht.typeIs (by decide) ?_)
  refine wpAny_bind (wpAny_callSpecial?_slot (name := Str.ofString "__getitem__") ht.typeIs PyProof.Rows.slot_tuple_getitem
    (wpAny_call_entry PyProof.Rows.slot_tuple_getitem ht.typeIs entry_tuple_getitem ?_ (args_tuple_getitem _ _)))
  show wpAny _ _ (Builtin.Tuple.tupleItemsOf (.ref t) >>= _) _ _ s
  refine wpAny_bind (tupleItemsOf_ ht ?_)
  refine wpAny_bind (wpAny_typeOf hTs ?_)
  rw [if_pos (by decide)]
  refine wpAny_bind (sliceApplied_rev hs pl pu pst ?_)
  have hno : ¬ (((Builtin.Slice.sliceAdjust none hi (-1) (items.size : Int)).1 == 0 && (-1 : Int) == 1 && Builtin.Slice.slicePlaces (Builtin.Slice.sliceAdjust none hi (-1) (items.size : Int)).1 (Builtin.Slice.sliceAdjust none hi (-1) (items.size : Int)).2 (-1) == items.size) = true) := by
    intro q
    rw [Bool.and_eq_true, Bool.and_eq_true] at q
    exact absurd q.1.2 (by decide)
  show wpAny _ _ (if (((Builtin.Slice.sliceAdjust none hi (-1) (items.size : Int)).1 == 0 && (-1 : Int) == 1 && Builtin.Slice.slicePlaces (Builtin.Slice.sliceAdjust none hi (-1) (items.size : Int)).1 (Builtin.Slice.sliceAdjust none hi (-1) (items.size : Int)).2 (-1) == items.size) = true) then _ else _) _ _ s
  rw [if_neg hno, rev_pick items hi hh]
  first
    | exact wpAny_bind (m := Builtin.Tuple.tupleExact _) (wpAny_newObj_type (wpAny_pure ⟨_, rfl, wpAny_pure h⟩) htake)
    | exact wpAny_bind (m := Builtin.Tuple.tupleExact _) (wpAny_newObj_type (wpAny_bind (wpAny_pure (wpAny_pure ⟨_, rfl, wpAny_pure h⟩))) htake)
    | exact wpAny_bind (wpAny_bind (m := Builtin.Tuple.tupleExact _) (wpAny_newObj_type (wpAny_pure (wpAny_pure ⟨_, rfl, wpAny_pure h⟩)) htake))
    | exact wpAny_bind (wpAny_bind (m := Builtin.Tuple.tupleExact _) (wpAny_newObj_type (wpAny_pure ⟨_, rfl, wpAny_pure h⟩) htake))
end

section
variable {C : DC} {ρ ρ' : Rho} {σ : L2.St} {H H' : Hp} {e a b c : Expr} {es : List Expr} {pos p p2 apos cpos : Pos} {k : EV → Rho → Prop} {kd : PyData → Prop} {kl : List PyData → Rho → Prop}
/-! ### slices -/
def WO (X : Cx) (oe : Option Expr) : TO := fun σ H Q => ∀ pins s, Inv X pins σ H s → wpAny (model X.prog X.w) X.A (evalPart oe X.env) (fun u s' => ∃ o H', Inv X pins σ H' s' ∧ IsPart u o ∧ Q o H') X.xe s
theorem WO.po {X : Cx} {oe : Option Expr} : PO X oe (WO X oe) := ⟨fun pins s _ _ _ I h => h pins s I⟩
theorem WO.of {X : Cx} {oe : Option Expr} {t : TO} {Q : Option Int → Hp → Prop} (h : PO X oe t) (q : t σ H Q) : WO X oe σ H Q := fun pins s I => h.run pins s σ H Q I q
def DO (C : DC) (ρ : Rho) (oe : Option Expr) (k : Option Int → Rho → Prop) : Prop :=
  ∀ σ H (Q : Option Int → Hp → Prop), C.Rs ρ σ H → (∀ o ρ' H', KT H H' → C.Rs ρ' σ H' → k o ρ' → Q o H') → WO C.X oe σ H Q
theorem do_none {k : Option Int → Rho → Prop} (q : k none ρ) : DO C ρ none k := fun σ H Q r g => WO.of po_none (g none ρ H (KT.refl H) r q)
theorem do_some {k : Option Int → Rho → Prop} (h : DE C ρ e fun ev ρ1 => ∃ i : Int, ev = .dat (.int i) ∧ k (some i) ρ1) : DO C ρ (some e) k := fun σ H Q r g => by
  refine WO.of (po_some WE.pe) ?_
  refine h σ H _ r fun v ev ρ1 H1 k1 r1 o1 h1 => ?_
  obtain ⟨i, rfl, hk⟩ := h1
  cases (Mp.rp o1).int
  exact ⟨i, rfl, g _ ρ1 H1 k1 r1 hk⟩
def cutD (xs : List PyData) (lo hi : Option Int) : List PyData := (xs.drop (HT.sIx xs.length 0 lo)).take (HT.sIx xs.length xs.length hi - HT.sIx xs.length 0 lo)
theorem cut_rpl {K : PySem.W.Frag} {vs : List V} {ds : List PyData} (h : RpL K H vs ds) (lo hi : Option Int) : RpL K H (cutV vs lo hi) (cutD ds lo hi) := by
  unfold cutV cutD
  rw [h.length]
  exact (h.drop _).take _
theorem de_slT {lo hi : Option Expr} (h : DE C ρ e fun ev ρ1 => DO C ρ1 lo fun l ρ2 => DO C ρ2 hi fun u ρ3 => ∃ ds, ev = .dat (.tuple ds) ∧ k (.dat (.tuple (cutD ds l u))) ρ3) : DE C ρ (.Subscript e (.Slice lo hi none p2) pos) k := fun σ H Q r g => by
  refine WE.of (pe_slice sl_tupA WE.pe WO.po WO.po) ?_
  refine h σ H _ r fun v ev ρ1 H1 k1 r1 o1 h1 => ?_
  refine h1 σ H1 _ r1 fun l ρ2 H2 k2 r2 h2 => ?_
  refine h2 σ H2 _ r2 fun u ρ3 H3 k3 r3 h3 => ?_
  obtain ⟨ds, rfl, hk⟩ := h3
  obtain ⟨t, vs, rfl, e1, e2⟩ := (Mp.rp (Rp.kt (k2.trans k3) o1)).tup
  have hl := e2.length
  refine ⟨t, vs, rfl, e1, fun hw => ?_, fun hw p np => ?_⟩
  · have e : cutD ds l u = ds := by
      unfold cutD
      rw [← hl, hw.1, hw.2, List.drop_zero, Nat.sub_zero, List.take_of_length_le (by rw [hl]; exact Nat.le_refl _)]
    rw [e] at hk
    exact g _ (.dat (.tuple ds)) ρ3 H3 ((k1.trans k2).trans k3) r3 (Rp.tup e1 e2) hk
  · have ex : Ex H3 (L2.upd H3 p (.tup (cutV vs l u))) := Ex.new np
    exact g _ (.dat (.tuple (cutD ds l u))) ρ3 _ (((k1.trans k2).trans k3).trans ex.kt) (r3.ex ex) (Rp.tup (SqT.of upd_same) ((cut_rpl e2 l u).kt ex.kt)) hk
theorem dl_slL {lo hi : Option Expr} (h : DE C ρ e fun ev ρ1 => DO C ρ1 lo fun l ρ2 => DO C ρ2 hi fun u ρ3 => ∃ ds, DatOf ρ3 ev (.list ds) ∧ kl (cutD ds l u) ρ3) : DL C ρ (.Subscript e (.Slice lo hi none p2) pos) kl := fun σ H Q r g => by
  refine WE.of (pe_slice sl_list WE.pe WO.po WO.po) ?_
  refine h σ H _ r fun v ev ρ1 H1 k1 r1 o1 h1 => ?_
  refine h1 σ H1 _ r1 fun l ρ2 H2 k2 r2 h2 => ?_
  refine h2 σ H2 _ r2 fun u ρ3 H3 k3 r3 h3 => ?_
  obtain ⟨ds, hd, hk⟩ := h3
  obtain ⟨t, vs, rfl, e1, e2⟩ := (hd.mp r3 (o1.kt (k2.trans k3))).lst
  refine ⟨t, vs, rfl, e1, fun p np => ?_⟩
  have ex : Ex H3 (L2.upd H3 p (.lst (cutV vs l u))) := Ex.new np
  exact g p _ _ ρ3 _ (((k1.trans k2).trans k3).trans ex.kt) (r3.ex ex) (New.of_none r3 np) upd_same ((cut_rpl e2 l u).kt ex.kt) hk
theorem de_slS {lo hi : Option Expr} (h : DE C ρ e fun ev ρ1 => DO C ρ1 lo fun l ρ2 => DO C ρ2 hi fun u ρ3 => ∃ z : Str, ev = .dat (.str z) ∧ z.length ≤ sizeLine ∧ k (.dat (.str (cutS z l u))) ρ3) : DE C ρ (.Subscript e (.Slice lo hi none p2) pos) k := fun σ H Q r g => by
  refine WE.of (pe_slice sl_str WE.pe WO.po WO.po) ?_
  refine h σ H _ r fun v ev ρ1 H1 k1 r1 o1 h1 => ?_
  refine h1 σ H1 _ r1 fun l ρ2 H2 k2 r2 h2 => ?_
  refine h2 σ H2 _ r2 fun u ρ3 H3 k3 r3 h3 => ?_
  obtain ⟨z, rfl, hz, hk⟩ := h3
  cases (Mp.rp o1).str
  exact ⟨z, rfl, hz, g _ (.dat (.str _)) ρ3 H3 ((k1.trans k2).trans k3) r3 (Rp.str _) hk⟩
/-- t[:0:-1], t[::-1] of a tuple -/
def tRevT (K : PySem.W.Frag) (te : TE) (th : TO) : TE := fun σ H Q => te σ H fun x H1 => th σ H1 fun u H2 => ∃ a xs, x = .ref a ∧ SqT K H2 a xs ∧ (u = none ∨ u = some 0) ∧ ∀ p, H2 p = none → Q (.ref p) (L2.upd H2 p (.tup (revCut xs u)))
theorem pe_revT {X : Cx} {te : TE} {th : TO} {hi : Option Expr} {kk : Nat} {p1 p3 p4 : Pos} (he : PE X e te) (hh : PO X hi th) : PE X (.Subscript e (.Slice none hi (some (.UnaryOp .USub (.Constant (.int 1) kk p1) p3)) p4) pos) (tRevT X.K te th) := by
  refine ⟨fun pins s σ H Q I h => ?_⟩
  refine Subscript_ (thn (he.run pins s σ H _ I h) fun v s1 ⟨x, H1, I1, r1, q1⟩ => ?_)
  have hst : PO X (some (.UnaryOp .USub (.Constant (.int 1) kk p1) p3)) (tPart (tUn (rU fun i => .int (-i)) (tC (.int 1)))) := po_some (pe_un un_neg pe_int)
  refine wpAny_Slice (thn (po_none.run pins s1 σ H1 (fun o H2 => o = none ∧ H2 = H1) I1 ⟨rfl, rfl⟩) fun vl s2 ⟨l, H2, I2, pl, el, e2⟩ => ?_)
  subst el e2
  refine thn (hh.run pins s2 σ H2 _ I2 q1) fun vu s3 ⟨u, H3, I3, pu, q3⟩ => ?_
  obtain ⟨a, xs, ex, hx, hu, q⟩ := q3
  subst ex
  cases r1
  refine thn (hst.run pins s3 σ H3 (fun o H4 => o = some (-1) ∧ H4 = H3) I3 ⟨1, rfl, -1, rfl, rfl, rfl⟩) fun vs s4 ⟨o, H4, I4, ps, eo, e4⟩ => ?_
  subst eo e4
  have I5 : Inv X pins σ H4 { s4 with heap := s4.heap.push { cls := .type "slice", data := .fields #[vl, vu, vs] } } := I4.kept (t' := s4.toks) fun b ob q => Heap.get?_push_of_some _ q
  obtain ⟨its, r, ht, hz⟩ := I5.tuple hx
  have hlen := r.length
  show wpAny (model X.prog X.w) X.A (subscriptTail e (.Slice none hi (some (.UnaryOp .USub (.Constant (.int 1) kk p1) p3)) p4) (.ref a) (.ref s4.heap.objs.size)) (EP X pins σ Q) X.xe { s4 with heap := s4.heap.push { cls := .type "slice", data := .fields #[vl, vu, vs] } }
  refine tail_any (ops := [.ref a, .ref s4.heap.objs.size]) ht.typeIs (PyProof.Rows.slot_tuple_getitem.lookup) ?_ (by with_unfolding_all rfl)
  refine getItem_tuple_rev ht (Heap.IsSliceOf.new _ vl vu vs) pl pu ps hu ?_ (by rw [List.size_toArray]; omega)
  have hrv : Vals (revCut xs u) (revCut its u) := by
    rcases hu with rfl | rfl
    · exact r.reverse
    · exact (r.drop 1).reverse
  refine ⟨.ref _, _, I5.laid (t' := s4.toks) (o := .tup (revCut xs u)) (fun b ob q => Heap.get?_push_of_some _ q) (Nat.le_refl _) ?_, rfl, q _ (I5.hok.fresh (Nat.le_refl _))⟩
  refine ⟨?_, _, hrv, ⟨_, Heap.get?_push_size _ rfl, rfl, _, rfl⟩⟩
  rcases hu with rfl | rfl
  · show (xs.reverse).length ≤ _
    rw [List.length_reverse]; exact hz
  · show ((xs.drop 1).reverse).length ≤ _
    rw [List.length_reverse, List.length_drop]; omega
theorem de_revT {hi : Option Expr} {kk : Nat} {p1 p3 p4 : Pos} (h : DE C ρ e fun ev ρ1 => DO C ρ1 hi fun u ρ2 => ∃ ds, ev = .dat (.tuple ds) ∧ (u = none ∨ u = some 0) ∧ k (.dat (.tuple (revCut ds u))) ρ2) : DE C ρ (.Subscript e (.Slice none hi (some (.UnaryOp .USub (.Constant (.int 1) kk p1) p3)) p4) pos) k := fun σ H Q r g => by
  refine WE.of (pe_revT WE.pe WO.po) ?_
  refine h σ H _ r fun v ev ρ1 H1 k1 r1 o1 h1 => ?_
  refine h1 σ H1 _ r1 fun u ρ2 H2 k2 r2 h2 => ?_
  obtain ⟨ds, rfl, hu, hk⟩ := h2
  obtain ⟨t, vs, rfl, e1, e2⟩ := (Mp.rp (Rp.kt k2 o1)).tup
  refine ⟨t, vs, rfl, e1, hu, fun p np => ?_⟩
  have ex : Ex H2 (L2.upd H2 p (.tup (revCut vs u))) := Ex.new np
  have hrv : C.RpL H2 (revCut vs u) (revCut ds u) := by
    rcases hu with rfl | rfl
    · exact e2.reverse
    · exact (e2.drop 1).reverse
  exact g _ (.dat (.tuple (revCut ds u))) ρ2 _ ((k1.trans k2).trans ex.kt) (r2.ex ex) (Rp.tup (SqT.of upd_same) (hrv.kt ex.kt)) hk
end
end DW
namespace DW
open PySem L2
section
variable {C : DC} {ρ ρ' : Rho} {σ : L2.St} {H H' : Hp} {e a b c iter elt : Expr} {es : List Expr} {pos p p2 apos cpos px py : Pos} {k : EV → Rho → Prop} {kd : PyData → Prop} {kl : List PyData → Rho → Prop} {nx : Rho → Prop} {rt : RV → Prop} {bk ct : Rho → Prop} {st : Stmt} {sts : List Stmt} {kt' : Bool → Rho → Prop}

/-! ### arguments, one after another -/
def DAd (C : DC) (ρ : Rho) (es : List Expr) (k : List PyData → Rho → Prop) : Prop :=
  ∀ σ H (Q : List V → Hp → Prop), C.Rs ρ σ H → (∀ vs ds ρ' H', KT H H' → C.Rs ρ' σ H' → C.RpL H' vs ds → ds.length = es.length → k ds ρ' → Q vs H') → WA C.X es σ H Q
theorem dad_nil (q : kl [] ρ) : DAd C ρ [] kl := fun σ H Q r g => WA.of pa_nil (g [] [] ρ H (KT.refl H) r .nil rfl q)
theorem dad_cons (h : DE C ρ e fun ev ρ1 => ∃ d, ev = .dat d ∧ DAd C ρ1 es fun ds ρ2 => kl (d :: ds) ρ2) (hs : starEach (e :: es) C.X.env = (false, eval e C.X.env) :: starEach es C.X.env := by rfl) : DAd C ρ (e :: es) kl := fun σ H Q r g => by
  refine WA.of (pa_cons WE.pe WA.pa hs) ?_
  refine h σ H _ r fun v ev ρ1 H1 k1 r1 o1 h1 => ?_
  obtain ⟨d, rfl, h1⟩ := h1
  refine h1 σ H1 _ r1 fun vs ds ρ2 H2 k2 r2 o2 hl h2 => ?_
  exact g _ (d :: ds) ρ2 H2 (k1.trans k2) r2 (.cons (Rp.kt k2 o1) o2) (by rw [List.length_cons, List.length_cons, hl]) h2
theorem de_tuple {x1} (h : DAd C ρ es fun ds ρ1 => k (.dat (.tuple ds)) ρ1) (hz : es.length ≤ sizeLine := by decide) : DE C ρ (.Tuple es x1 pos) k := fun σ H Q r g => by
  refine WE.of (pe_tup WA.pa) ?_
  refine h σ H _ r fun vs ds ρ1 H1 k1 r1 o1 hl hk => ?_
  refine ⟨by rw [o1.length, hl]; exact hz, fun p np => ?_⟩
  have ex : Ex H1 (L2.upd H1 p (.tup vs)) := Ex.new np
  exact g _ (.dat (.tuple ds)) ρ1 _ (k1.trans ex.kt) (r1.ex ex) (Rp.tup (SqT.of upd_same) (o1.kt ex.kt)) hk
theorem dl_list (h : DAd C ρ es fun ds ρ1 => kl ds ρ1) (hz : es.length ≤ sizeLine := by decide) : DL C ρ (.List es pos) kl := fun σ H Q r g => by
  refine WE.of (pe_lst WA.pa) ?_
  refine h σ H _ r fun vs ds ρ1 H1 k1 r1 o1 hl hk => ?_
  refine ⟨by rw [o1.length, hl]; exact hz, fun p np => ?_⟩
  have ex : Ex H1 (L2.upd H1 p (.lst vs)) := Ex.new np
  exact g p vs ds ρ1 _ (k1.trans ex.kt) (r1.ex ex) (New.of_none r1 np) upd_same (o1.kt ex.kt) hk
theorem ArgsOk.kt {K : PySem.W.Frag} {dr : Option Addr} (q : KT H H') : ∀ {vs : List V} {avs : List AV}, ArgsOk K H dr vs avs → ArgsOk K H' dr vs avs
  | _, _, .nil => .nil
  | _, _, .dat h t => .dat (h.kt q) (ArgsOk.kt q t)
  | _, _, .drw h t => .drw h (ArgsOk.kt q t)
  | _, _, .scr h t => .scr (h.kt q) (ArgsOk.kt q t)
def DAv (C : DC) (ρ : Rho) (es : List Expr) (k : List AV → Rho → Prop) : Prop :=
  ∀ σ H (Q : List V → Hp → Prop), C.Rs ρ σ H → (∀ vs avs ρ' H', KT H H' → C.Rs ρ' σ H' → ArgsOk C.X.K H' C.dr vs avs → k avs ρ' → Q vs H') → WA C.X es σ H Q
variable {kv : List AV → Rho → Prop}
theorem dav_nil (q : kv [] ρ) : DAv C ρ [] kv := fun σ H Q r g => WA.of pa_nil (g [] [] ρ H (KT.refl H) r .nil q)
theorem dav_cons (h : DE C ρ e fun ev ρ1 => ∃ av, (match ev with | .dat d => av = .dat d | .ali i => (ρ1[i]? = some .drw ∧ av = .drw) ∨ ∃ ns, ρ1[i]? = some (.scr ns) ∧ av = .scr ns) ∧ DAv C ρ1 es fun avs ρ2 => kv (av :: avs) ρ2) (hs : starEach (e :: es) C.X.env = (false, eval e C.X.env) :: starEach es C.X.env := by rfl) : DAv C ρ (e :: es) kv := fun σ H Q r g => by
  refine WA.of (pa_cons WE.pe WA.pa hs) ?_
  refine h σ H _ r fun v ev ρ1 H1 k1 r1 o1 h1 => ?_
  obtain ⟨av, ha, h1⟩ := h1
  refine h1 σ H1 _ r1 fun vs avs ρ2 H2 k2 r2 o2 h2 => ?_
  refine g _ (av :: avs) ρ2 H2 (k1.trans k2) r2 ?_ h2
  cases ev with
  | dat d =>
    cases (show av = .dat d from ha)
    exact .dat (Rp.kt k2 o1) o2
  | ali i =>
    rcases ha with ⟨hi, rfl⟩ | ⟨ns, hi, rfl⟩
    · obtain ⟨a, h1, h2⟩ := Rs.drw r1 hi
      have ee := (show σ[_]? = some (some _) from o1).symm.trans h1
      cases ee
      exact .drw h2 o2
    · obtain ⟨a, h1, h2⟩ := Rs.scr r1 hi
      have ee := (show σ[_]? = some (some _) from o1).symm.trans h1
      cases ee
      exact .scr (h2.kt k2) o2
theorem callv_core {x : Str} {fs : FS} {Q : VK} (F : Cal C.X x fs) (hg : Gl C.X x) (r : C.Rs ρ σ H) (h : DAv C ρ (e :: es) fun avs ρ1 => ∃ R, fs avs R ∧ ∀ v rv H2, KT H H2 → C.Rs ρ1 σ H2 → (∀ p vs, rv = .lst vs → v = .ref p → New C.H0 C.dr ρ1 σ p) → RvOk C.X.K (fun _ => none) none H2 v rv → R rv → Q v H2)
    (hdb : (x == ("__debug__" : Str)) = false) (he : starEach (e :: es) C.X.env = (false, eval e C.X.env) :: starEach es C.X.env) (hpl : (backTo pos (starEach es C.X.env)).any (·.1) = false) :
    WE C.X (.Call (.Name x p) (e :: es) [] pos) σ H Q := by
  obtain ⟨kk, f, fd, ps, F, hr, hgd, hm, hk, hb⟩ := F.ex
  refine WE.of (pe_callG F hr hgd hg hm hk hb WA.pa hdb he hpl) ?_
  refine h σ H _ r fun vs avs ρ1 H1 k1 r1 o1 h1 => ?_
  obtain ⟨R, hf, hq⟩ := h1
  refine ⟨C.dr, avs, R, r1.fr.drw, o1, hf, fun v rv H2 fr ok hR => ?_⟩
  have r2 := rs_call r1 fr
  refine hq v rv H2 (k1.trans fr.kt) r2 (fun p vs hrv hv => ?_) ?_ hR
  · subst hrv
    obtain ⟨p', vs', e1, e2, _⟩ := ok
    rw [hv] at e1
    cases e1
    exact New.of_none r1 e2
  · cases rv with
    | dat d => exact ok
    | lst ds =>
      obtain ⟨p', vs', e1, e2, _, e3, e4⟩ := ok
      exact ⟨p', vs', e1, rfl, (fun z => nomatch z), e3, e4⟩
/-- f(e, ..), what it gives kept as data -/
theorem de_f {x : Str} {fs : FS} (F : Cal C.X x fs) (h : DAv C ρ (e :: es) fun avs ρ1 => fs avs fun rv => k (.dat rv.data) ρ1) (hg : Gl C.X x := by rfl)
    (hdb : (x == ("__debug__" : Str)) = false := by decide) (he : starEach (e :: es) C.X.env = (false, eval e C.X.env) :: starEach es C.X.env := by rfl) (hpl : (backTo pos (starEach es C.X.env)).any (·.1) = false := by rfl) :
    DE C ρ (.Call (.Name x p) (e :: es) [] pos) k := fun σ H Q r g => by
  refine (callv_core (Q := fun v H' => ∃ ρ1 rv, KT H H' ∧ C.Rs ρ1 σ H' ∧ (∀ p vs, rv = .lst vs → v = .ref p → New C.H0 C.dr ρ1 σ p) ∧ RvOk C.X.K (fun _ => none) none H' v rv ∧ k (.dat rv.data) ρ1) F hg r ?_ hdb he hpl).thn ?_
  · intro σ' H1 Q' r' g'
    exact h σ' H1 Q' r' fun vs avs ρ1 H2 k2 r2 o2 h2 => g' vs avs ρ1 H2 k2 r2 o2 ⟨_, h2, fun v rv H2 kt r2 n ok hk => ⟨ρ1, rv, kt, r2, n, ok, hk⟩⟩
  · intro pins s v u H' I rel hq
    obtain ⟨ρ1, rv, kt, r1, n, ok, hk⟩ := hq
    cases rv with
    | dat d => exact ⟨v, H', I, rel, g v (.dat d) ρ1 H' kt r1 ok hk⟩
    | lst ds =>
      obtain ⟨p', vs, rfl, _, _, h1, h2⟩ := ok
      obtain ⟨o, I'⟩ := freeze I h1 (by intro xs z; cases z) (by intro o w z; cases z) (by intro ps z; cases z) (by intro a z; cases z)
      refine ⟨_, _, I', rel, g _ (.dat (.list ds)) ρ1 _ (kt.trans (kt_frz h1)) (Rs.frz r1 (n p' ds rfl rfl) h1) ?_ hk⟩
      exact Rp.lst ⟨o, upd_same⟩ (h2.kt (kt_frz h1))
theorem dl_f {x : Str} {fs : FS} (F : Cal C.X x fs) (h : DAv C ρ (e :: es) fun avs ρ1 => fs avs fun rv => ∃ ds, rv = .lst ds ∧ kl ds ρ1) (hg : Gl C.X x := by rfl)
    (hdb : (x == ("__debug__" : Str)) = false := by decide) (he : starEach (e :: es) C.X.env = (false, eval e C.X.env) :: starEach es C.X.env := by rfl) (hpl : (backTo pos (starEach es C.X.env)).any (·.1) = false := by rfl) :
    DL C ρ (.Call (.Name x p) (e :: es) [] pos) kl := fun σ H Q r g => by
  refine callv_core F hg r ?_ hdb he hpl
  intro σ' H1 Q' r' g'
  refine h σ' H1 Q' r' fun vs avs ρ1 H2 k2 r2 o2 h2 => g' vs avs ρ1 H2 k2 r2 o2 ?_
  refine ⟨_, h2, fun v rv H2 kt r2 n ok hk => ?_⟩
  obtain ⟨ds, rfl, hk⟩ := hk
  obtain ⟨p', vs, rfl, _, _, h1, h2⟩ := ok
  exact g p' vs ds ρ1 H2 kt r2 (n p' ds rfl rfl) h1 h2 hk

/-! ### built-ins with one argument, with two -/
theorem de_b1 {x : Str} {id : String} (hv : bootBuiltins x = some (.builtin id)) (hm : C.X.mg x = none) (h : DE C ρ e fun ev ρ1 => ∃ d, DatOf ρ1 ev d ∧ DCall C.X (.builtin id) [d] fun d => k (.dat d) ρ1) (hg : Gl C.X x := by rfl)
    (hn : x ≠ "__name__" := by decide) (hdb : (x == ("__debug__" : Str)) = false := by decide) (he : starEach [e] C.X.env = (false, eval e C.X.env) :: starEach [] C.X.env := by rfl) (hpl : (backTo pos (starEach [] C.X.env)).any (·.1) = false := by rfl) :
    DE C ρ (.Call (.Name x p) [e] [] pos) k :=
  de_callB hv hm hg (da_cons (h.mono fun ev ρ1 ⟨d, h1, h2⟩ => da_nil ⟨[d], .cons h1 .nil, h2⟩) he) hn hdb he hpl
theorem de_t1 {x : Str} {id : String} (hv : bootBuiltins x = some (.type id)) (hm : C.X.mg x = none) (h : DE C ρ e fun ev ρ1 => ∃ d, DatOf ρ1 ev d ∧ DCall C.X (.type id) [d] fun d => k (.dat d) ρ1) (hg : Gl C.X x := by rfl)
    (hn : x ≠ "__name__" := by decide) (hdb : (x == ("__debug__" : Str)) = false := by decide) (he : starEach [e] C.X.env = (false, eval e C.X.env) :: starEach [] C.X.env := by rfl) (hpl : (backTo pos (starEach [] C.X.env)).any (·.1) = false := by rfl) :
    DE C ρ (.Call (.Name x p) [e] [] pos) k :=
  de_callT hv hm hg (da_cons (h.mono fun ev ρ1 ⟨d, h1, h2⟩ => da_nil ⟨[d], .cons h1 .nil, h2⟩) he) hn hdb he hpl
theorem dl_t1 {x : Str} {id : String} (hv : bootBuiltins x = some (.type id)) (hm : C.X.mg x = none) (h : DE C ρ e fun ev ρ1 => ∃ d, DatOf ρ1 ev d ∧ DCallL C.X (.type id) [d] fun d => kl d ρ1) (hg : Gl C.X x := by rfl)
    (hn : x ≠ "__name__" := by decide) (hdb : (x == ("__debug__" : Str)) = false := by decide) (he : starEach [e] C.X.env = (false, eval e C.X.env) :: starEach [] C.X.env := by rfl) (hpl : (backTo pos (starEach [] C.X.env)).any (·.1) = false := by rfl) :
    DL C ρ (.Call (.Name x p) [e] [] pos) kl :=
  dl_callT hv hm hg (da_cons (h.mono fun ev ρ1 ⟨d, h1, h2⟩ => da_nil ⟨[d], .cons h1 .nil, h2⟩) he) hn hdb he hpl
theorem de_b2 {x : Str} {id : String} (hv : bootBuiltins x = some (.builtin id)) (hm : C.X.mg x = none) (h : DE C ρ a fun ev ρ1 => DE C ρ1 b fun ev2 ρ2 => ∃ d d', DatOf ρ2 ev d ∧ DatOf ρ2 ev2 d' ∧ DCall C.X (.builtin id) [d, d'] fun d => k (.dat d) ρ2) (hg : Gl C.X x := by rfl)
    (hn : x ≠ "__name__" := by decide) (hdb : (x == ("__debug__" : Str)) = false := by decide) (he : starEach [a, b] C.X.env = (false, eval a C.X.env) :: starEach [b] C.X.env := by rfl) (he2 : starEach [b] C.X.env = (false, eval b C.X.env) :: starEach [] C.X.env := by rfl) (hpl : (backTo pos (starEach [b] C.X.env)).any (·.1) = false := by rfl) :
    DE C ρ (.Call (.Name x p) [a, b] [] pos) k :=
  de_callB hv hm hg (da_cons (h.mono fun ev ρ1 h1 => da_cons (h1.mono fun ev2 ρ2 ⟨d, d', h2, h3, h4⟩ => da_nil ⟨[d, d'], .cons h2 (.cons h3 .nil), h4⟩) he2) he) hn hdb he hpl

/-! ### repr -/
def Gd (C : DC) : Prop := C.X.A.guards = some []
end
mutual
def noList : PyData → Bool
  | .none => true
  | .bool _ => true
  | .int _ => true
  | .str _ => true
  | .list _ => false
  | .tuple ds => noLists ds
  | .dict _ => true
def noLists : List PyData → Bool
  | [] => true
  | d :: ds => noList d && noLists ds
end
section
variable {σ : L2.St} {H : Hp} {X : Cx} {pins : List (Addr × Obj)} {s : Shared}
mutual
theorem rp_readsN (I : Inv X pins σ H s) : ∀ (d : PyData) (v : V) (u : Value), noList d = true → Rp X.K H v d → RelV v u → ∃ as, Reads s.heap u d as ∧ sysModules ∉ as
  | .none, _, _, _, h, r => by
    cases h
    cases r
    exact ⟨_, Reads.none, by simp⟩
  | .bool b, _, _, _, h, r => by
    cases h
    cases r
    exact ⟨_, Reads.bool b, by simp⟩
  | .int i, _, _, _, h, r => by
    cases h
    obtain ⟨t, rfl⟩ := r
    exact ⟨_, Reads.int i t, by simp⟩
  | .str x, _, _, _, h, r => by
    cases h
    obtain ⟨t, rfl⟩ := r
    exact ⟨_, Reads.str x t, by simp⟩
  | .list ds, _, _, n, _, _ => by simp [noList] at n
  | .tuple ds, _, _, n, h, r => by
    cases h with
    | tup hs ha =>
      cases r
      obtain ⟨its, rv, ⟨o, ho, hc, m, hd⟩, _⟩ := I.tuple hs
      obtain ⟨as, hr, hn⟩ := rpl_readsN I ds _ its (by simpa [noList] using n) ha rv
      exact ⟨_, Reads.tuple ho hc hd hr, hn⟩
  | .dict kvs, _, _, _, h, r => by
    cases h with
    | @dic a o hs =>
      cases r
      obtain ⟨_, _, nsys, vs, r0, ob, es, ep, he, hc, hd, _, hes, _⟩ := (show ObjOk X.prog X.w H s.heap a (.frz o (.dK [])) from I.hok a _ hs)
      cases r0
      have hes' : es.toList = [] := List.length_eq_zero_iff.mp (by rw [hes.length]; rfl)
      refine ⟨_, Reads.dict (kvs := []) (as := []) (bs := []) he hc.1 hd (by rw [hes']; exact ReadsAll.nil) (by rw [hes']; exact ReadsAll.nil), ?_⟩
      intro z
      have : sysModules = a := by simpa using z
      rw [← this] at nsys
      exact absurd nsys (by simp)
theorem rpl_readsN (I : Inv X pins σ H s) : ∀ (ds : List PyData) (vs : List V) (us : List Value), noLists ds = true → RpL X.K H vs ds → Vals vs us → ∃ as, ReadsAll s.heap us ds as ∧ sysModules ∉ as
  | [], _, _, _, h, r => by
    cases h
    cases r
    exact ⟨_, ReadsAll.nil, by simp⟩
  | d :: ds, _, _, n, h, r => by
    have n' : noList d = true ∧ noLists ds = true := by simpa [noLists] using n
    cases h with
    | cons h1 h2 =>
      cases r with
      | cons r1 r2 =>
        obtain ⟨as, q1, m1⟩ := rp_readsN I d _ _ n'.1 h1 r1
        obtain ⟨bs, q2, m2⟩ := rpl_readsN I ds _ _ n'.2 h2 r2
        exact ⟨_, ReadsAll.cons q1 q2, by simp [m1, m2]⟩
end
end
section
variable {C : DC} {ρ ρ' : Rho} {σ : L2.St} {H H' : Hp} {e a b c iter elt : Expr} {es : List Expr} {pos p p2 apos cpos px py : Pos} {k : EV → Rho → Prop} {kd : PyData → Prop} {kl : List PyData → Rho → Prop} {nx : Rho → Prop} {rt : RV → Prop} {bk ct : Rho → Prop} {st : Stmt} {sts : List Stmt} {kt' : Bool → Rho → Prop}
theorem dc_repr {d : PyData} (hgd : Gd C) (hu : C.X.A.units + (d.depth + 1) < cLine) (hs : d.showable = true) (hnd : d.hasDict = false ∨ noList d = true) (hz : d.shown.length ≤ sizeLine) (q : kd (.str d.shown)) : DCall C.X (.builtin "repr") [d] kd := fun pins s σ H vs us Q I rv mv g => by
  obtain ⟨v, rfl, mu⟩ := mv.one
  obtain ⟨u, rfl, ru⟩ := rv.one
  have key : ∀ a, u = .ref a → wpAny (model C.X.prog C.X.w) C.X.A (call (.builtin "repr") [u]) (EP C.X pins σ Q) C.X.xe s := fun a hu' => by
    obtain ⟨as, rd, hsys⟩ : ∃ as, Reads s.heap u d as ∧ (d.hasDict = true → sysModules ∉ as) := by
      rcases hnd with hnd | hnd
      · obtain ⟨as, rd⟩ := mp_reads I mu ru
        exact ⟨as, rd, PyData.noDict_hsm hnd⟩
      · cases mu with
        | rp mu =>
          obtain ⟨as, rd, hn⟩ := rp_readsN I d v u hnd mu ru
          exact ⟨as, rd, fun _ => hn⟩
        | own _ _ => simp [noList] at hnd
    subst hu'
    exact repr_of_reads' rd hs hsys hgd hu (fun _ _ z => z) (fun h' t tk hk => ⟨.str d.shown, H, I.kept (t' := tk) hk, ⟨t, rfl⟩, g _ _ H (Ex.refl H) (.str _) q⟩) hz
  cases d with
  | none =>
    cases mu.non
    cases (show u = Value.none from ru)
    exact PySem.P.repr_of_none ⟨.str _, H, I.tok _, ⟨_, rfl⟩, g _ _ H (Ex.refl H) (.str _) (by simpa only [PyData.shown] using q)⟩
  | bool x =>
    cases mu.bl
    cases (show u = Value.bool x from ru)
    exact PySem.P.repr_of_bool ⟨.str _, H, I.tok _, ⟨_, rfl⟩, g _ _ H (Ex.refl H) (.str _) (by simpa only [PyData.shown] using q)⟩
  | int x =>
    cases mu.int
    obtain ⟨t, rfl⟩ := (show ∃ t, u = Value.int x t from ru)
    exact PySem.P.repr_of_int (by simpa [PyData.showable] using hs) ⟨.str _, H, I.tok _, ⟨_, rfl⟩, g _ _ H (Ex.refl H) (.str _) (by simpa only [PyData.shown] using q)⟩
  | str x =>
    cases mu.str
    obtain ⟨t, rfl⟩ := (show ∃ t, u = Value.str x t from ru)
    exact PySem.P.repr_of_str ⟨.str _, H, I.tok _, ⟨_, rfl⟩, g _ _ H (Ex.refl H) (.str _) (by simpa only [PyData.shown] using q)⟩ (by simpa only [PyData.shown] using hz)
  | list ds =>
    obtain ⟨l, ws, rfl, _⟩ := mu.lst
    exact key l ru
  | tuple ds =>
    obtain ⟨l, ws, rfl, _⟩ := mu.tup
    exact key l ru
  | dict ds =>
    cases mu with
    | rp mu =>
      cases mu with
      | dic h => exact key _ ru
end
end DW
namespace DW
open PySem L2
section
variable {C : DC} {ρ ρ' : Rho} {σ : L2.St} {H H' : Hp} {e a b c iter elt : Expr} {es : List Expr} {pos p p2 apos cpos px py : Pos} {k : EV → Rho → Prop} {kd : PyData → Prop} {kl : List PyData → Rho → Prop} {nx : Rho → Prop} {rt : RV → Prop} {bk ct : Rho → Prop} {st : Stmt} {sts : List Stmt} {kt' : Bool → Rho → Prop} {tg : Expr}

/-! ### classes of data -/
def isInt : PyData → Bool
  | .int _ => true
  | .bool _ => true
  | _ => false
def isBool : PyData → Bool
  | .bool _ => true
  | _ => false
def isStr : PyData → Bool
  | .str _ => true
  | _ => false
def isTup : PyData → Bool
  | .tuple _ => true
  | _ => false
def isLst : PyData → Bool
  | .list _ => true
  | _ => false
theorem kInt (d : PyData) : kitB (tyName d) "int" = some (isInt d) := by
  cases d with
  | none => exact (by decide +kernel : kitB "NoneType" "int" = some false)
  | bool _ => exact (by decide +kernel : kitB "bool" "int" = some true)
  | int _ => exact (by decide +kernel : kitB "int" "int" = some true)
  | str _ => exact (by decide +kernel : kitB "str" "int" = some false)
  | list _ => exact (by decide +kernel : kitB "list" "int" = some false)
  | tuple _ => exact (by decide +kernel : kitB "tuple" "int" = some false)
  | dict _ => exact (by decide +kernel : kitB "dict" "int" = some false)
theorem kBool (d : PyData) : kitB (tyName d) "bool" = some (isBool d) := by
  cases d with
  | none => exact (by decide +kernel : kitB "NoneType" "bool" = some false)
  | bool _ => exact (by decide +kernel : kitB "bool" "bool" = some true)
  | int _ => exact (by decide +kernel : kitB "int" "bool" = some false)
  | str _ => exact (by decide +kernel : kitB "str" "bool" = some false)
  | list _ => exact (by decide +kernel : kitB "list" "bool" = some false)
  | tuple _ => exact (by decide +kernel : kitB "tuple" "bool" = some false)
  | dict _ => exact (by decide +kernel : kitB "dict" "bool" = some false)
theorem kStr (d : PyData) : kitB (tyName d) "str" = some (isStr d) := by
  cases d with
  | none => exact (by decide +kernel : kitB "NoneType" "str" = some false)
  | bool _ => exact (by decide +kernel : kitB "bool" "str" = some false)
  | int _ => exact (by decide +kernel : kitB "int" "str" = some false)
  | str _ => exact (by decide +kernel : kitB "str" "str" = some true)
  | list _ => exact (by decide +kernel : kitB "list" "str" = some false)
  | tuple _ => exact (by decide +kernel : kitB "tuple" "str" = some false)
  | dict _ => exact (by decide +kernel : kitB "dict" "str" = some false)
theorem kTup (d : PyData) : kitB (tyName d) "tuple" = some (isTup d) := by
  cases d with
  | none => exact (by decide +kernel : kitB "NoneType" "tuple" = some false)
  | bool _ => exact (by decide +kernel : kitB "bool" "tuple" = some false)
  | int _ => exact (by decide +kernel : kitB "int" "tuple" = some false)
  | str _ => exact (by decide +kernel : kitB "str" "tuple" = some false)
  | list _ => exact (by decide +kernel : kitB "list" "tuple" = some false)
  | tuple _ => exact (by decide +kernel : kitB "tuple" "tuple" = some true)
  | dict _ => exact (by decide +kernel : kitB "dict" "tuple" = some false)
theorem kLst (d : PyData) : kitB (tyName d) "list" = some (isLst d) := by
  cases d with
  | none => exact (by decide +kernel : kitB "NoneType" "list" = some false)
  | bool _ => exact (by decide +kernel : kitB "bool" "list" = some false)
  | int _ => exact (by decide +kernel : kitB "int" "list" = some false)
  | str _ => exact (by decide +kernel : kitB "str" "list" = some false)
  | list _ => exact (by decide +kernel : kitB "list" "list" = some true)
  | tuple _ => exact (by decide +kernel : kitB "tuple" "list" = some false)
  | dict _ => exact (by decide +kernel : kitB "dict" "list" = some false)
theorem de_is {T : Str} {tn : String} {f : PyData → Bool} (hf : ∀ d, kitB (tyName d) tn = some (f d)) (hvT : bootBuiltins T = some (.type tn)) (hm : C.X.mg "isinstance" = none) (hmT : C.X.mg T = none)
    (h : DE C ρ a fun ev ρ1 => ∃ d, DatOf ρ1 ev d ∧ k (.dat (.bool (f d))) ρ1) (hg : Gl C.X "isinstance" := by rfl) (hgT : Gl C.X T := by rfl)
    (hnT : T ≠ "__name__" := by decide) (hdT : (T == ("__debug__" : Str)) = false := by decide)
    (he : starEach [a, .Name T p2] C.X.env = (false, eval a C.X.env) :: starEach [.Name T p2] C.X.env := by rfl) (he2 : starEach [.Name T p2] C.X.env = (false, eval (.Name T p2) C.X.env) :: starEach [] C.X.env := by rfl) (hpl : (backTo pos (starEach [.Name T p2] C.X.env)).any (·.1) = false := by rfl) :
    DE C ρ (.Call (.Name "isinstance" p) [a, .Name T p2] [] pos) k :=
  de_isi hm hmT hg hgT hvT (h.mono fun ev ρ1 ⟨d, h1, h2⟩ => ⟨d, _, h1, hf d, h2⟩) hnT hdT he he2 hpl
/-- isinstance(x, (S, T)) -/
theorem de_is2 {S T : Str} {sn tn : String} {f g : PyData → Bool} {x1} {p3 p4 : Pos} (hf : ∀ d, kitB (tyName d) sn = some (f d)) (hg' : ∀ d, kitB (tyName d) tn = some (g d)) (hvS : bootBuiltins S = some (.type sn)) (hvT : bootBuiltins T = some (.type tn)) (hm : C.X.mg "isinstance" = none) (hmS : C.X.mg S = none) (hmT : C.X.mg T = none)
    (h : DE C ρ a fun ev ρ1 => ∃ d, ev = .dat d ∧ k (.dat (.bool (f d || g d))) ρ1) (hg : Gl C.X "isinstance" := by rfl) (hgS : Gl C.X S := by rfl) (hgT : Gl C.X T := by rfl)
    (hnS : S ≠ "__name__" := by decide) (hdS : (S == ("__debug__" : Str)) = false := by decide) (hnT : T ≠ "__name__" := by decide) (hdT : (T == ("__debug__" : Str)) = false := by decide)
    (he : starEach [a, .Tuple [.Name S p2, .Name T p3] x1 p4] C.X.env = (false, eval a C.X.env) :: starEach [.Tuple [.Name S p2, .Name T p3] x1 p4] C.X.env := by rfl)
    (he2 : starEach [.Tuple [.Name S p2, .Name T p3] x1 p4] C.X.env = (false, eval (.Tuple [.Name S p2, .Name T p3] x1 p4) C.X.env) :: starEach [] C.X.env := by rfl) (hpl : (backTo pos (starEach [.Tuple [.Name S p2, .Name T p3] x1 p4] C.X.env)).any (·.1) = false := by rfl)
    (ht : starEach [.Name S p2, .Name T p3] C.X.env = (false, eval (.Name S p2) C.X.env) :: starEach [.Name T p3] C.X.env := by rfl) (ht2 : starEach [.Name T p3] C.X.env = (false, eval (.Name T p3) C.X.env) :: starEach [] C.X.env := by rfl) :
    DE C ρ (.Call (.Name "isinstance" p) [a, .Tuple [.Name S p2, .Name T p3] x1 p4] [] pos) k := fun σ H Q r gg => by
  refine WE.of (pe_callB call_isiT hg hm (by decide +kernel) (pa_cons WE.pe (pa_cons (pe_tup (pa_cons (pe_bltn (v := .ty sn) hgS hmS hvS rfl hnS hdS) (pa_cons (pe_bltn (v := .ty tn) hgT hmT hvT rfl hnT hdT) pa_nil ht2) ht)) pa_nil he2) he) (by decide) (by decide) he hpl) ?_
  refine h σ H _ r fun v ev ρ1 H1 k1 r1 o1 h1 => ?_
  obtain ⟨d, rfl, hk⟩ := h1
  refine ⟨by show 2 ≤ sizeLine; decide, fun q nq => ?_⟩
  have ex : Ex H1 (L2.upd H1 q (.tup [.ty sn, .ty tn])) := Ex.new nq
  have hrp : Rp C.X.K (L2.upd H1 q (.tup [.ty sn, .ty tn])) v d := Rp.kt ex.kt o1
  refine ⟨v, q, [.ty sn, .ty tn], .type (tyName d), [.type sn, .type tn], f d || g d, rfl, upd_same, .cons (.ty sn) (.cons (.ty tn) .nil), mp_ty (.rp hrp), ?_, gg _ (.dat (.bool _)) ρ1 _ (k1.trans ex.kt) (r1.ex ex) (Rp.bl _) hk⟩
  refine kitAny_cons (kit_ty (hf d)) (fun z => ?_) (fun z => by rw [z]; rfl)
  rw [z, Bool.false_or]
  refine kitAny_cons (kit_ty (hg' d)) (fun z => ?_) (fun z => z)
  rw [z]
  rfl

/-! ### in -/
theorem do_inS {c : Nat} {z : Str} (q : kd (.bool (decide (c ∈ z.cps.toList)))) : DOp C.X (compareOp .In) (.str ⟨#[c]⟩) (.str z) kd := DOp.of op_in_sign fun H vx vy Q mx my g => by
  cases mx.str
  cases my.str
  exact ⟨c, z, rfl, rfl, g _ _ H (Ex.refl H) (.bl _) q⟩
theorem do_ninS {c : Nat} {z : Str} (q : kd (.bool (!decide (c ∈ z.cps.toList)))) : DOp C.X (compareOp .NotIn) (.str ⟨#[c]⟩) (.str z) kd := DOp.of op_notIn_sign fun H vx vy Q mx my g => by
  cases mx.str
  cases my.str
  exact ⟨c, z, rfl, rfl, g _ _ H (Ex.refl H) (.bl _) q⟩
theorem room_shp {A : Around} {d : PyData} {ds : List PyData} (h : SeqAt.shaped d = true) (hu : A.units + 200 < cLine) : A.units + 1 + min (PyData.depthAll ds) d.depth < cLine := by
  have h1 := SeqAt.depth_of_shaped h
  have h2 : min (PyData.depthAll ds) d.depth ≤ d.depth := Nat.min_le_right _ _
  omega
theorem do_inL {d : PyData} {ds : List PyData} (hm : Rm C) (hd : SeqAt.shaped d = true) (hl : SeqAt.shaped (.list ds) = true) (q : kd (.bool (ds.any fun z => PyData.eqv z d))) : DOp C.X (compareOp .In) d (.list ds) kd := fun pins s σ H vx vy u w Q I rx ry mx my g => by
  obtain ⟨as, r1⟩ := mp_reads I mx rx
  obtain ⟨bs, r2⟩ := mp_reads I my ry
  exact SeqAt.in_list_reads r2 r1 (SeqAt.canLay_of_shaped hl) (SeqAt.canLay_of_shaped hd) (room_shp hd hm) ⟨.bl _, H, I, rfl, g _ _ H (Ex.refl H) (.bl _) q⟩
theorem do_ninL {d : PyData} {ds : List PyData} (hm : Rm C) (hd : SeqAt.shaped d = true) (hl : SeqAt.shaped (.list ds) = true) (q : kd (.bool (!ds.any fun z => PyData.eqv z d))) : DOp C.X (compareOp .NotIn) d (.list ds) kd := fun pins s σ H vx vy u w Q I rx ry mx my g => by
  obtain ⟨as, r1⟩ := mp_reads I mx rx
  obtain ⟨bs, r2⟩ := mp_reads I my ry
  exact SeqAt.notIn_list_reads r2 r1 (SeqAt.canLay_of_shaped hl) (SeqAt.canLay_of_shaped hd) (room_shp hd hm) ⟨.bl _, H, I, rfl, g _ _ H (Ex.refl H) (.bl _) q⟩

/-! ### range(a, b, -1) -/
theorem di_range3 {pr : Pos} (hm : C.X.mg "range" = none) (h : DAd C ρ [a, b, c] fun ds ρ1 => ∃ lo hi : Int, ds = [.int lo, .int hi, .int (-1)] ∧ (-(2 ^ 62) ≤ lo ∧ lo < 2 ^ 62 ∧ -(2 ^ 62) ≤ hi ∧ hi < 2 ^ 62) ∧ kl (downFrom lo (lo - hi).toNat) ρ1) (hg : Gl C.X "range" := by rfl)
    (hs : starEach [a, b, c] C.X.env = (false, eval a C.X.env) :: starEach [b, c] C.X.env := by rfl) (hpl : (backTo pr (starEach [b, c] C.X.env)).any (·.1) = false := by rfl) : DI C ρ tg (.Call (.Name "range" p) [a, b, c] [] pr) kl := fun σ H R r g => by
  refine WI.of (pi_range3 hg hm WA.pa hs hpl) ?_
  refine h σ H _ r fun vs ds ρ1 H1 k1 r1 o1 _ h1 => ?_
  obtain ⟨lo, hi, rfl, ⟨b1, b2, b3, b4⟩, hk⟩ := h1
  have e : vs = [.int lo, .int hi, .int (-1)] := RpL.ints (ns := [lo, hi, -1]) o1
  subst e
  exact ⟨lo, hi, -1, _, rfl, RgC.neg b1 b2 b3 b4, g _ _ ρ1 H1 k1 r1 (wk_down lo _) hk⟩
theorem de_neg {i : Int} {j} {p3 : Pos} (q : k (.dat (.int (-i))) ρ) : DE C ρ (.UnaryOp .USub (.Constant (.int i) j p) p3) k := fun σ H Q r g =>
  WE.of (pe_un un_neg pe_int) ⟨i, rfl, g _ (.dat (.int (-i))) ρ H (KT.refl H) r (Rp.int _) q⟩

/-! ### name = [..] -/
theorem WS.thn {X : Cx} {E E' : Ends} (h : WS X st E σ H) (h1 : ∀ pins s τ H', Inv X pins τ H' s → E.nx τ H' → ∃ τ' H'', Inv X pins τ' H'' s ∧ E'.nx τ' H'') (h2 : E.rt = E'.rt) (h3 : E.bk = E'.bk) (h4 : E.ct = E'.ct) : WS X st E' σ H := fun pins s I =>
  L2.thn (h pins s I) fun f s' q => by
    cases f with
    | next =>
      obtain ⟨τ, H1, I1, q⟩ := q
      exact h1 pins s' τ H1 I1 q
    | brk =>
      obtain ⟨τ, H1, I1, q⟩ := q
      exact ⟨τ, H1, I1, by rw [← h3]; exact q⟩
    | cont =>
      obtain ⟨τ, H1, I1, q⟩ := q
      exact ⟨τ, H1, I1, by rw [← h4]; exact q⟩
    | ret v =>
      obtain ⟨w, τ, H1, I1, rw', q⟩ := q
      exact ⟨w, τ, H1, I1, rw', by rw [← h2]; exact q⟩
/-- where a store of a new list is told by its reading -/
theorem ds_newL {i : Nat} {te : TE} (hp : PS C.X st (tAsg te (gName i)))
    (h : ∀ σ H (Q : VK), C.Rs ρ σ H → (∀ p vs ds ρ' H', KT H H' → C.Rs ρ' σ H' → New C.H0 C.dr ρ' σ p → H' p = some (.lst vs) → C.RpL H' vs ds → nx (ρ'.set i (.own ds)) → Q (.ref p) H') → te σ H Q) : DS C ρ st nx rt bk ct := fun σ H E r ac => by
  refine WS.of hp ?_
  refine h σ H _ r fun p vs ds ρ1 H1 k1 r1 n hq hl h1 => ?_
  exact ac.nx _ _ H1 k1 (Rs.setO r1 n hq hl) h1
theorem ds_newF {i : Nat} {te : TE} (hp : PS C.X st (tAsg te (gName i)))
    (h : ∀ σ H (Q : VK), C.Rs ρ σ H → (∀ p vs ds ρ' H', KT H H' → C.Rs ρ' σ H' → New C.H0 C.dr ρ' σ p → H' p = some (.lst vs) → C.RpL H' vs ds → nx (ρ'.set i (.dat (.list ds))) → Q (.ref p) H') → te σ H Q) : DS C ρ st nx rt bk ct := fun σ H E r ac => by
  refine WS.thn (E := { E with nx := fun τ H1 => ∃ p vs ds ρ1, τ = σ.set i (some (.ref p)) ∧ KT H H1 ∧ C.Rs ρ1 σ H1 ∧ New C.H0 C.dr ρ1 σ p ∧ H1 p = some (.lst vs) ∧ C.RpL H1 vs ds ∧ nx (ρ1.set i (.dat (.list ds))) }) (WS.of hp ?_) ?_ rfl rfl rfl
  · refine h σ H _ r fun p vs ds ρ1 H1 k1 r1 n hq hl h1 => ?_
    exact ⟨p, vs, ds, ρ1, rfl, k1, r1, n, hq, hl, h1⟩
  · rintro pins s τ H1 I ⟨p, vs, ds, ρ1, rfl, k1, r1, n, hq, hl, hk⟩
    obtain ⟨o, I'⟩ := freeze I hq (by intro xs z; cases z) (by intro o w z; cases z) (by intro ps z; cases z) (by intro a z; cases z)
    exact ⟨_, _, I', ac.nx _ _ _ (k1.trans (kt_frz hq)) (Rs.setD (Rs.frz r1 n hq) (Rp.lst ⟨o, upd_same⟩ (hl.kt (kt_frz hq)))) hk⟩
/-- the reading of a comprehension without tests -/
theorem lc_te {scope : Scope} {x : Str} {j : Nat} (h : DI C ρ (.Name x px) iter fun ds ρ1 => ρ1[j]? = some .no ∧ ds.length < sizeLine ∧ ∃ I : Nat → List PyData → Rho → Prop, I 0 [] ρ1 ∧
      (∀ i d acc ρ2, ds[i]? = some d → I i acc ρ2 → ∀ s H0 C0 cl fp Hx, DE ⟨blkX C.X scope s H0 C0 cl fp, Hx, C.dr⟩ (ρ2.set j (.dat d)) elt fun ev ρ3 => ∃ d', ev = .dat d' ∧ I (i + 1) (acc ++ [d']) (ρ3.set j .no)) ∧ ∀ acc ρ2, I ds.length acc ρ2 → kl acc ρ2)
    (Q : VK) (r : C.Rs ρ σ H) (g : ∀ p vs ds ρ' H', KT H H' → C.Rs ρ' σ H' → New C.H0 C.dr ρ' σ p → H' p = some (.lst vs) → C.RpL H' vs ds → kl ds ρ' → Q (.ref p) H') : tLc (WI C.X (.Name x px) iter) (gName j) tYes (WEb C.X scope elt) [j] σ H Q := by
  refine h σ H _ r fun J ds ρ1 H1 k1 r1 w h1 => ?_
  obtain ⟨hno, hz, I, i0, hst, hd⟩ := h1
  refine lc_core (scope := scope) r1 w hno hz (fun q vs zs ρ2 H2 k2 r2 n2 hq hl hk => g q vs zs ρ2 H2 (k1.trans k2) r2 n2 hq hl hk) I i0 hd fun i d acc ρ2 hdi hI Hx σ2 H2 Qt r2 hq => ?_
  refine hq true _ H2 (KT.refl H2) r2 (fun _ Qe hQe => fun s H0 C0 cl fp => ?_) (fun z => nomatch z)
  refine hst i d acc ρ2 hdi hI s H0 C0 cl fp Hx σ2 H2 Qe r2 fun v ev ρ3 H3 k3 r3 o3 h3 => ?_
  obtain ⟨d', rfl, h3⟩ := h3
  exact hQe v d' ρ3 H3 k3 r3 o3 h3
theorem ps_lc {scope : Scope} {x y : Str} {i j : Nat} {spos : Pos} (ok : BlkOk C.X.N C.X.env.scope scope [(x, j)]) (hN : C.X.N.Nodup) (hy : C.X.N[i]? = some y) (hyl : C.X.env.scope.names.lookup y = some .local)
    (hg : ∀ s H0 C0 cl fp, PG (blkX C.X scope s H0 C0 cl fp) (.Name x px) (gName j))
    (hsw : swapsWith (.ListComp elt [⟨.Name x px, iter, [], 0⟩] scope pos) (some (.Name y py)) spos.line C.X.env = pure true) (hc : C.X.calm = true := by rfl) (hs : ∀ x, foldedSetIterable iter C.X.env x = pure x := by intro _; rfl) :
    PS C.X (.Assign [.Name y py] (.ListComp elt [⟨.Name x px, iter, [], 0⟩] scope pos) spos) (tAsg (tLc (WI C.X (.Name x px) iter) (gName j) tYes (WEb C.X scope elt) [j]) (gName i)) :=
  ps_setLc (own := [(x, j)]) hc hN hy hyl hsw WI.pi ok hg (fun _ _ _ _ _ => pts_nil) (fun s H0 C0 cl fp => (⟨fun pins s' σ H Q I h => h s H0 C0 cl fp pins s' I⟩ : PE (blkX C.X scope s H0 C0 cl fp) elt (WEb C.X scope elt))) hs

/-! ### the script, the drawn list -/
theorem de_scr {i : Nat} {x : Str} {ns : List Int} (q : k (.ali i) ρ) (h : ρ[i]? = some (.scr ns)) (hN : C.X.N[i]? = some x) (hv : Vis C.X.env.scope x) (hd : (x == ("__debug__" : Str)) = false := by decide) (hcd : (x == ("__classdict__" : Str)) = false := by decide) :
    DE C ρ (.Name x pos) k := fun σ H Q r g => by
  obtain ⟨l, h1, _⟩ := Rs.scr r h
  exact WE.of (pe_var hN hv hd hcd) ⟨.ref l, h1, g _ (.ali i) ρ H (KT.refl H) r h1 q⟩
theorem de_lenScr {i : Nat} {x : Str} {ns : List Int} (hm : C.X.mg "len" = none) (h : ρ[i]? = some (.scr ns)) (q : k (.dat (.int ns.length)) ρ) (hN : C.X.N[i]? = some x) (hv : Vis C.X.env.scope x) (hg : Gl C.X "len" := by rfl) (hd : (x == ("__debug__" : Str)) = false := by decide) (hcd : (x == ("__classdict__" : Str)) = false := by decide)
    (he : starEach [.Name x px] C.X.env = (false, eval (.Name x px) C.X.env) :: starEach [] C.X.env := by rfl) (hpl : (backTo pos (starEach [] C.X.env)).any (·.1) = false := by rfl) : DE C ρ (.Call (.Name "len" p) [.Name x px] [] pos) k := fun σ H Q r g => by
  obtain ⟨l, h1, h2⟩ := Rs.scr r h
  refine WE.of (pe_callB call_len_seq hg hm PySem.boot_len (pa_cons (pe_var hN hv hd hcd) pa_nil he) (by decide) (by decide) he hpl) ?_
  refine ⟨.ref l, h1, l, _, rfl, .inl h2.l, ?_⟩
  rw [List.length_map]
  exact g _ (.dat (.int _)) ρ H (KT.refl H) r (Rp.int _) q
theorem dl_slScr {i : Nat} {x : Str} {ns : List Int} {lo hi : Option Expr} (h : ρ[i]? = some (.scr ns)) (hN : C.X.N[i]? = some x) (hv : Vis C.X.env.scope x) (hk : DO C ρ lo fun l ρ2 => DO C ρ2 hi fun u ρ3 => kl (cutD (ns.map .int) l u) ρ3) (hd : (x == ("__debug__" : Str)) = false := by decide) (hcd : (x == ("__classdict__" : Str)) = false := by decide) :
    DL C ρ (.Subscript (.Name x px) (.Slice lo hi none p2) pos) kl := fun σ H Q r g => by
  obtain ⟨t, h1, h2⟩ := Rs.scr r h
  refine WE.of (pe_slice sl_list (pe_var hN hv hd hcd) WO.po WO.po) ?_
  refine ⟨.ref t, h1, ?_⟩
  refine hk σ H _ r fun l ρ2 H2 k2 r2 hk2 => ?_
  refine hk2 σ H2 _ r2 fun u ρ3 H3 k3 r3 h3 => ?_
  refine ⟨t, _, rfl, (h2.kt (k2.trans k3)).l, fun q nq => ?_⟩
  have ex : Ex H3 (L2.upd H3 q (.lst (cutV (ns.map V.int) l u))) := Ex.new nq
  exact g q _ _ ρ3 _ ((k2.trans k3).trans ex.kt) (r3.ex ex) (New.of_none r3 nq) upd_same ((cut_rpl (RpL.ofInts ns) l u).kt ex.kt) h3
/-- the drawn list is made here -/
theorem db_drw {i : Nat} {x : Str} {pos' : Pos} (h : DL C ρ e fun ds ρ1 => ∃ g m c : Int, ds = [.int g, .int m, .int c] ∧ 0 ≤ g ∧ 0 ≤ m ∧ m < 2 ^ 61 ∧ 0 ≤ c ∧ i < ρ1.length ∧ ∀ q, DB ⟨C.X, C.H0, some q⟩ (ρ1.set i .drw) sts (fun _ => False) rt (fun _ => False) (fun _ => False)) (hdr : C.dr = none) (hN : C.X.N.Nodup) (hi : C.X.N[i]? = some x) (hx : Loc C.X.env.scope x)
    (hs : swapsWith e (some (.Name x pos')) pos.line C.X.env = pure false := by rfl) (hf : C.X.fn x = true ∨ C.X.env.scope.names.lookup x = some .local := by first | exact .inl rfl | exact .inr rfl | assumption) :
    DB C ρ (.Assign [.Name x pos'] e pos :: sts) nx rt bk ct := fun σ H E r ac => by
  refine WB.of (pss_cons (ps_set hN hi hx WE.pe hs hf) WB.pss) ?_
  refine h σ H _ r fun q vs ds ρ1 H1 k1 r1 n hq hl h1 => ?_
  obtain ⟨g, m, c, rfl, hg, hm, hm2, hc, hi, hB⟩ := h1
  have e : vs = [.int g, .int m, .int c] := RpL.ints (ns := [g, m, c]) hl
  subst e
  have fr' : Fr C.H0 (some q) H1 := ⟨fun b o hb _ => r1.fr.ext b o hb (by rw [hdr]; exact fun z => nomatch z), r1.fr.kt, fun a ha => by
    cases ha
    exact ⟨g, m, c, hq, hg, hm, hm2, hc⟩⟩
  have back : ∀ {H2 : Hp}, Fr C.H0 (some q) H2 → Fr C.H0 C.dr H2 := fun {H2} f => ⟨fun b o hb _ => f.ext b o hb (fun z => by
    cases z
    rw [n.e] at hb
    cases hb), f.kt, fun a ha => by rw [hdr] at ha; cases ha⟩
  have hiσ : i < σ.length := by rw [r1.len]; exact hi
  refine hB q (σ.set i (some (.ref q))) H1 E ⟨fr', by rw [List.length_set, List.length_set]; exact r1.len, fun j sv h => ?_, fun j1 j2 s1 s2 l h1 h2 o1 o2 e1 e2 => ?_⟩ ⟨fun ρ2 σ2 H2 k2 r2 qn => ?_, fun v rv H2 k2 fr rvo qr => ?_, fun ρ2 σ2 H2 k2 r2 qn => ?_, fun ρ2 σ2 H2 k2 r2 qn => ?_⟩
  · by_cases hj : i = j
    · subst hj
      rw [List.getElem?_set_self hi] at h
      cases h
      rw [List.getElem?_set_self hiσ]
      exact ⟨q, rfl, rfl⟩
    · rw [List.getElem?_set_ne hj] at h
      rw [List.getElem?_set_ne hj]
      have hs := r1.sl j sv h
      cases sv with
      | no => exact True.intro
      | dat d => exact hs
      | own ds =>
        obtain ⟨l, a1, a2, a3, ws, a4, a5⟩ := hs
        exact ⟨l, a1, a2, fun z => by
          cases z
          exact own_ne n r1 h rfl a1 rfl, ws, a4, a5⟩
      | dic ds =>
        obtain ⟨l, a1, a2, a3, ws, a4, a5⟩ := hs
        exact ⟨l, a1, a2, fun z => by
          cases z
          exact own_ne n r1 h rfl a1 rfl, ws, a4, a5⟩
      | drw =>
        obtain ⟨a, a1, _⟩ := hs
        rw [hdr] at a1
        cases a1
      | scr ns => exact hs
  · have n1 : i ≠ j1 := fun z => by
      subst z
      rw [List.getElem?_set_self hi] at h1
      cases h1
      cases o1
    have n2 : i ≠ j2 := fun z => by
      subst z
      rw [List.getElem?_set_self hi] at h2
      cases h2
      cases o2
    rw [List.getElem?_set_ne n1] at h1 e1
    rw [List.getElem?_set_ne n2] at h2 e2
    exact r1.sep j1 j2 s1 s2 l h1 h2 o1 o2 e1 e2
  · exact qn.elim
  · refine ac.rt v rv H2 (k1.trans k2) (back fr) ?_ qr
    cases rv with
    | dat d => exact rvo
    | lst ds =>
      obtain ⟨p', ws, a1, a2, _, a4, a5⟩ := rvo
      exact ⟨p', ws, a1, a2, (by rw [hdr]; intro z; cases z), a4, a5⟩
  · exact qn.elim
  · exact qn.elim
end
end DW
namespace DW
open PySem L2 PySem.Spec PyProof.Rows

/-! ### defs of the text, by name -/
/-- the def x stands at the top, with these parameters -/
structure Df (K : PySem.W.Frag) (mg : Str → Option Value) (x : Str) (st : Stmt) (ps : List Str) : Prop where
  ex : ∃ (f : Addr) (fd : FuncData), Fun K x x st f fd ∧ mg x = some (.ref f) ∧ Binds K fd ps []
/-- the def x keeps fs, by level k -/
structure Fn (P : Program) (w : World) (K : PySem.W.Frag) (mg : Str → Option Value) (base : Heap) (k : Nat) (x : Str) (fs : FS) : Prop where
  ex : ∃ (f : Addr) (fd : FuncData) (ps : List Str), FnG P w K mg base k f fd ps (spOf K fs) ∧ mg x = some (.ref f) ∧ PySem.W.keepIn K (.ref f) = true ∧ Binds K fd ps []
section
variable {P : Program} {w : World} {K : PySem.W.Frag} {mg : Str → Option Value} {base : Heap}
theorem Fn.mono {j k : Nat} {x : Str} {fs : FS} (F : Fn P w K mg base j x fs) (h : j ≤ k) : Fn P w K mg base k x fs := by
  obtain ⟨f, fd, ps, F, r⟩ := F.ex
  exact ⟨f, fd, ps, F.mono h, r⟩
theorem Fn.imp {k : Nat} {x : Str} {fs fs' : FS} (F : Fn P w K mg base k x fs) (h : ∀ avs R, fs' avs R → fs avs R) : Fn P w K mg base k x fs' := by
  obtain ⟨f, fd, ps, F, r⟩ := F.ex
  have hh : ∀ vs H Q E, spOf K fs' vs H Q E → spOf K fs vs H Q E := fun vs H Q E ⟨dr, avs, R, a, b, c, d⟩ => ⟨dr, avs, R, a, b, h _ _ c, d⟩
  exact ⟨f, fd, ps, ⟨fun vs H Q E q => F.len vs H Q E (hh _ _ _ _ q), fun A outer s H args us vs Q E a b c d e q => F.run A outer s H args us vs Q E a b c d e (hh _ _ _ _ q)⟩, r⟩
theorem Fn.cal {k : Nat} {x : Str} {fs : FS} {X : Cx} (F : Fn X.prog X.w X.K X.mg X.base k x fs) (hr : Room k X.A) (hg : X.A.guards = some []) : Cal X x fs := by
  obtain ⟨f, fd, ps, F, h1, h2, h3⟩ := F.ex
  exact ⟨k, f, fd, ps, F, hr, hg, h1, h2, h3⟩
theorem Df.ok {x : Str} {st : Stmt} {N ps : List Str} {k : Nat} {fs : FS} (F : Df K mg x st ps) (S : FnScope N ps (defScope st)) (hl : ∀ avs R, fs avs R → avs.length = ps.length)
    (hb : ∀ (f : Addr) (cdv : Value) (A : Around) (outer : List Env) (s : Shared) (H : Hp) (E : XK) (dr : Option Addr) (avs : List AV) (R : RV → Prop), Room k (A.deeper (PyProof.Rows.envOfC x (defScope st) s.heap.objs.size f cdv)) → A.guards = some [] → fs avs R →
      DB ⟨fcx P w K mg base N x st f cdv A outer s H E, H, dr⟩ (avs.map AV.sv ++ List.replicate (N.length - ps.length) .no) (defBody st) (fun _ => R (.dat .none)) R (fun _ => False) (fun _ => False)) : Fn P w K mg base (k + 1) x fs := by
  obtain ⟨f, fd, F, h1, h2⟩ := F.ex
  exact ⟨f, fd, ps, fn_ok F S hl fun cdv A outer s H E dr avs R => hb f cdv A outer s H E dr avs R, h1, F.kp, h2⟩
/-- nothing can be asked of it -/
theorem Df.none {x : Str} {st : Stmt} {ps : List Str} {fs : FS} {k : Nat} (F : Df K mg x st ps) (h : ∀ avs R, ¬ fs avs R) : Fn P w K mg base k x fs := by
  obtain ⟨f, fd, F, h1, h2⟩ := F.ex
  have no : ∀ vs H Q E, ¬ spOf K fs vs H Q E := fun vs H Q E ⟨_, avs, R, _, _, z, _⟩ => h avs R z
  exact ⟨f, fd, ps, ⟨fun vs H Q E z => absurd z (no vs H Q E), fun A outer s H args us vs Q E _ _ _ _ _ z => absurd z (no vs H Q E)⟩, h1, F.kp, h2⟩
theorem df_mk {x : Str} {st : Stmt} {ps : List Str} {h : Heap} {f : Addr} {oc : Value} {od an : Option Addr} {osl : Array (Option Value)} {kV doc pm cdv ct : Value} (X : K.In h) (G : h.Ns mainGlobals mg) (a : PySem.W.nsIn K mainGlobals x = some (some (.ref f)))
    (l : K.lookup f = some ⟨oc, od, .func (PySem.W.fnOf x x (defArgs st) (defBody st) (defScope st) .none kV doc pm an cdv ct), osl⟩) (c : PySem.W.codeIn K cdv x = true) (k : PySem.W.keepIn K (.ref f) = true)
    (hb : ∀ (kV doc pm : Value) (an : Option Addr) (cdv ct : Value) (us : List Value), us.length = ps.length → bindArgs (PySem.W.fnOf x x (defArgs st) (defBody st) (defScope st) .none kV doc pm an cdv ct) ⟨us, []⟩ = pure (ps.zip us)) : Df K mg x st ps := by
  have F := fun_mk (st := st) l c k
  exact ⟨f, _, F, PySem.W.mg_of X G a, F.binds hb⟩
end

/-! ### the built-ins' names -/
theorem bt_int : bootBuiltins "int" = some (.type "int") := by decide +kernel
theorem bt_bool : bootBuiltins "bool" = some (.type "bool") := by decide +kernel
theorem bt_str : bootBuiltins "str" = some (.type "str") := by decide +kernel
theorem bt_tuple : bootBuiltins "tuple" = some (.type "tuple") := by decide +kernel
theorem bt_list : bootBuiltins "list" = some (.type "list") := by decide +kernel
theorem bt_dict : bootBuiltins "dict" = some (.type "dict") := by decide +kernel
theorem bb_abs : bootBuiltins "abs" = some (.builtin "abs") := by decide +kernel
theorem bb_repr : bootBuiltins "repr" = some (.builtin "repr") := by decide +kernel
theorem bb_all : bootBuiltins "all" = some (.builtin "all") := by decide +kernel
theorem bb_any : bootBuiltins "any" = some (.builtin "any") := by decide +kernel
theorem bb_sum : bootBuiltins "sum" = some (.builtin "sum") := by decide +kernel
theorem bb_max : bootBuiltins "max" = some (.builtin "max") := by decide +kernel
theorem bb_min : bootBuiltins "min" = some (.builtin "min") := by decide +kernel
theorem bb_sorted : bootBuiltins "sorted" = some (.builtin "sorted") := by decide +kernel
theorem bb_len : bootBuiltins "len" = some (.builtin "len") := by decide +kernel

/-! ### the law's head -/
def fsLaw : FS := fun avs R => ∃ ns : List Int, avs = [.scr ns] ∧ ns.length ≤ 63 ∧ R (.dat (.bool true))
theorem law_run {P : Program} {w : World} {K : PySem.W.Frag} {mg mb : Str → Option Value} {k : Nat} {fa a : Addr} {fd : FuncData} {x : Str} {s1 : Shared} {us : List Value} {ns : List Int}
    (kin : K.In s1.heap) (gl : s1.heap.Ns mainGlobals mg) (bl : s1.heap.Ns builtinsNs mb) (bb : ∀ x : Str, x ≠ "__name__" → mb x = bootBuiltins x) (nolim : s1.heap.NoLimit) (gens : s1.gens = #[])
    (ha : s1.heap.get? a = some { cls := .type "list", data := .seq us.toArray }) (hi : IntsAre us ns) (hl : ns.length ≤ 63) (hr : Room k callerA)
    (F : ∀ base : Heap, K.In base → base.Ns mainGlobals mg → FnG P w K mg base k fa fd [x] (spOf K fsLaw)) (hb : Binds K fd [x] []) :
    codeAny (model P w) callerA (.call (.ref fa) ⟨[.ref a], []⟩) (fun r s' => r = .ok (.ret (.bool true)) ∧ OldK s1.heap s'.heap ∧ s'.os = s1.os ∧ AllBare s'.gens) s1 := by
  have rv : Vals (ns.map V.int) us := vals_of_ints hi
  have hlen : ns.length = us.length := by rw [← rv.length, List.length_map]
  have main : ∀ H : Hp, (∀ b u, H b = some u → b = a ∧ ∃ o xs, u = .frz o (.lst xs)) → (H a ≠ none → K.lookup a = none) → SqS K H a (ns.map V.int) → HOk P w H s1.heap →
      codeAny (model P w) callerA (.call (.ref fa) ⟨[.ref a], []⟩) (fun r s' => r = .ok (.ret (.bool true)) ∧ OldK s1.heap s'.heap ∧ s'.os = s1.os ∧ AllBare s'.gens) s1 := by
    intro H hO hK hS hok
    have dictFree : ∀ {b : Addr} {o : Obj} {es : Array DictEntry} {ep : Nat}, s1.heap.get? b = some o → o.data = .dict es ep → H b = none := by
      intro b o es ep e d
      cases q : H b with
      | none => rfl
      | some u =>
        obtain ⟨rfl, _⟩ := hO b u q
        rw [ha] at e
        cases e
        cases d
    have nsB : ∀ {b : Addr} {m : Str → Option Value}, s1.heap.Ns b m → (hidT s1.heap H).Ns b m := by
      rintro b m ⟨o, es, ep, e, d, r⟩
      exact ⟨o, es, ep, hidT_get e (dictFree e d), d, r⟩
    have kB : K.In (hidT s1.heap H) := by
      intro b o e
      refine hidT_get (kin b o e) ?_
      cases q : H b with
      | none => rfl
      | some u =>
        obtain ⟨rfl, _⟩ := hO b u q
        rw [hK (by rw [q]; simp)] at e
        cases e
    obtain ⟨mc, n1, n2⟩ := nolim
    have e0 : Env0 P w K mg (hidT s1.heap H) callerA [] s1 H := {
      frames := rfl
      mod := ⟨kB, nsB gl, ⟨mb, nsB bl, bb⟩, ⟨mc, nsB n1, n2⟩⟩
      bs := fun b o e => of_hidT e
      bsz := Nat.le_of_eq (hidT_size _ _)
      funs := trivial
      frf := by intro b z; cases z
      hok := hok
      bare := .of_eq gens }
    have hsp : spOf K fsLaw [.ref a] H (fun v _ => v = .bl true) (fun _ _ _ => False) := by
      refine ⟨none, [.scr ns], fun rv => rv = .dat (.bool true), (by intro z q; cases q), .scr hS .nil, ⟨ns, rfl, hl, rfl⟩, ?_⟩
      rintro v rv H' _ ok rfl
      exact (Mp.rp ok).bl
    refine codeAny_mono ((F _ kB (nsB gl)).run callerA [] s1 H ⟨[.ref a], []⟩ [.ref a] [.ref a] _ _ hr rfl e0 (hb s1 [.ref a] kin rfl) (.cons rfl .nil) hsp) ?_
    intro r s' h
    match r, h with
    | .error e, h => exact h.elim
    | .ok .next, h => exact h.elim
    | .ok .brk, h => exact h.elim
    | .ok .cont, h => exact h.elim
    | .ok (.ret u), h =>
      obtain ⟨v, H', os, bare, un, hok', r', q⟩ := h
      subst q
      cases r'
      refine ⟨rfl, OldK.of_keep ?_, os, bare⟩
      intro b o e
      cases q : H b with
      | none => exact un.keep b o e q (by intro z; cases z) (by intro z; cases z)
      | some u =>
        obtain ⟨_, ob, xs, rfl⟩ := hO b u q
        have q2 := un.frzs b ob _ q
        have e1 := (hok b _ q).1
        have e2 := (hok' b _ q2).1
        rw [e] at e1
        cases e1
        exact e2
  cases hk : K.lookup a with
  | some o =>
    have e := kin a o hk
    rw [ha] at e
    cases e
    refine main (fun _ => none) (by intro b u z; cases z) (fun z => absurd rfl z) (.inr ⟨_, us.toArray, _, hk, rfl, rfl, rfl, ?_, by simpa using rv⟩) (by intro b u z; cases z)
    rw [List.size_toArray, ← hlen]
    exact Nat.le_trans hl (by decide)
  | none =>
    have hsz : (ns.map V.int).length ≤ sizeLine := by rw [List.length_map]; exact Nat.le_trans hl (by decide)
    refine main (pin (fun _ => none) a (.frz { cls := .type "list", data := .seq us.toArray } (.lst (ns.map V.int)))) ?_ (fun _ => hk) (.inl ⟨_, pin_same⟩) ?_
    · intro b u z
      by_cases hb : b = a
      · subst hb
        rw [pin_same] at z
        cases z
        exact ⟨rfl, _, _, rfl⟩
      · rw [pin_ne hb] at z
        cases z
    · intro b u z
      by_cases hb : b = a
      · subst hb
        rw [pin_same] at z
        cases z
        exact ⟨ha, hsz, us, _, rv, ha⟩
      · rw [pin_ne hb] at z
        cases z
theorem walk_law {l : PySem.W.OpenLaw} {k : Nat} {q : Program} {loose : List Str} {XP : (Str → Option Value) → Heap → Prop} {YP : World → Heap → Prop} {d : DefRec} {K : Params → PySem.W.Frag} {x : Str}
    (hn : l.most = some 63) (hdf : d.params.defaults = []) (hr : Room k callerA) (hY : ∀ (w : World) (h : Heap), YP w h → (K w.params).In h)
    (F : ∀ (w : World) (mg : Str → Option Value) (h : Heap), (K w.params).In h → h.Ns mainGlobals mg →
      ∃ (fa : Addr) (fd : FuncData), mg d.name = some (.ref fa) ∧ Binds (K w.params) fd [x] [] ∧ ∀ base : Heap, (K w.params).In base → base.Ns mainGlobals mg → FnG l.prog w (K w.params) mg base k fa fd [x] (spOf (K w.params) fsLaw)) :
    PySem.W.WalkO q loose XP YP l.row.toRowW d [] (fun f vs => PySem.call f vs) := by
  refine Att.attach_call hn hdf ?_
  intro w s0 s1 mg mb fa o pm cd doc a vs ns G Y ho hd hcd hmg hobj hints hlen hg
  have kin := hY w _ Y
  obtain ⟨fa', fd, hfa, hb, hF⟩ := F w mg _ kin G.T.g
  rw [hmg] at hfa
  cases hfa
  exact law_run kin G.T.g G.T.b G.T.builtins G.T.nolimit hg hobj hints hlen hr hF hb
end DW
namespace DW
open PySem L2
section
variable {C : DC} {ρ ρ' : Rho} {σ : L2.St} {H H' : Hp} {e a b c iter elt : Expr} {es : List Expr} {pos pos' p p2 apos cpos px py : Pos} {k : EV → Rho → Prop} {kd : PyData → Prop} {kl : List PyData → Rho → Prop} {nx : Rho → Prop} {rt : RV → Prop} {bk ct : Rho → Prop} {st : Stmt} {sts : List Stmt} {i : Nat} {x : Str}
/-! ### the same, the name's slot found first -/
theorem nm_dat {d : PyData} (hN : C.X.N[i]? = some x) (hv : Vis C.X.env.scope x) (h : ρ[i]? = some (.dat d)) (q : k (.dat d) ρ) (hd : (x == ("__debug__" : Str)) = false := by decide) (hcd : (x == ("__classdict__" : Str)) = false := by decide) : DE C ρ (.Name x pos) k := de_dat q h hN hv hd hcd
theorem nm_own {ds : List PyData} (hN : C.X.N[i]? = some x) (hv : Vis C.X.env.scope x) (h : ρ[i]? = some (.own ds)) (q : k (.ali i) ρ) (hd : (x == ("__debug__" : Str)) = false := by decide) (hcd : (x == ("__classdict__" : Str)) = false := by decide) : DE C ρ (.Name x pos) k := de_own q h hN hv hd hcd
theorem nm_drw (hN : C.X.N[i]? = some x) (hv : Vis C.X.env.scope x) (h : ρ[i]? = some .drw) (q : k (.ali i) ρ) (hd : (x == ("__debug__" : Str)) = false := by decide) (hcd : (x == ("__classdict__" : Str)) = false := by decide) : DE C ρ (.Name x pos) k := de_drw q h hN hv hd hcd
theorem nm_scr {ns : List Int} (hN : C.X.N[i]? = some x) (hv : Vis C.X.env.scope x) (h : ρ[i]? = some (.scr ns)) (q : k (.ali i) ρ) (hd : (x == ("__debug__" : Str)) = false := by decide) (hcd : (x == ("__classdict__" : Str)) = false := by decide) : DE C ρ (.Name x pos) k := de_scr q h hN hv hd hcd
theorem st_set (hi : C.X.N[i]? = some x) (hx : Loc C.X.env.scope x) (hN : C.X.N.Nodup) (h : DE C ρ e fun ev ρ1 => ∃ d, ev = .dat d ∧ nx (ρ1.set i (.dat d)))
    (hs : swapsWith e (some (.Name x pos')) pos.line C.X.env = pure false := by rfl) (hf : C.X.fn x = true ∨ C.X.env.scope.names.lookup x = some .local := by first | exact .inl rfl | exact .inr rfl) : DS C ρ (.Assign [.Name x pos'] e pos) nx rt bk ct := ds_set h hN hi hx hs hf
theorem st_setL (hi : C.X.N[i]? = some x) (hx : Loc C.X.env.scope x) (hN : C.X.N.Nodup) (h : DL C ρ e fun ds ρ1 => nx (ρ1.set i (.own ds)))
    (hs : swapsWith e (some (.Name x pos')) pos.line C.X.env = pure false := by rfl) (hf : C.X.fn x = true ∨ C.X.env.scope.names.lookup x = some .local := by first | exact .inl rfl | exact .inr rfl) : DS C ρ (.Assign [.Name x pos'] e pos) nx rt bk ct := ds_setL h hN hi hx hs hf
theorem gt_name {d : PyData} {k : Rho → Prop} (hi : C.X.N[i]? = some x) (hx : Loc C.X.env.scope x) (hN : C.X.N.Nodup) (q : k (ρ.set i (.dat d))) (hf : C.X.fn x = true ∨ C.X.env.scope.names.lookup x = some .local := by first | exact .inl rfl | exact .inr rfl) : DGo C ρ (.Name x pos) d k := dg_name q hN hi hx hf
theorem gts_cons {d : PyData} {ts : List Expr} {ds : List PyData} {k : Rho → Prop} (hi : C.X.N[i]? = some x) (hx : Loc C.X.env.scope x) (hN : C.X.N.Nodup) (h : DGs C (ρ.set i (.dat d)) ts ds k) (hf : C.X.fn x = true ∨ C.X.env.scope.names.lookup x = some .local := by first | exact .inl rfl | exact .inr rfl)
    (hs : (assignEach (.Name x pos :: ts) C.X.env).map (·.2) = assign (.Name x pos) C.X.env :: (assignEach ts C.X.env).map (·.2) := by rfl) : DGs C ρ (.Name x pos :: ts) (d :: ds) k := dgs_cons h hN hi hx hf hs
theorem me_append {ds0 : List PyData} (hN : C.X.N[i]? = some x) (hv : Vis C.X.env.scope x) (h0 : ρ[i]? = some (.own ds0)) (h : DE C ρ e fun ev ρ1 => ∃ d ds, ev = .dat d ∧ ρ1[i]? = some (.own ds) ∧ ds.length < sizeLine ∧ k (.dat .none) (ρ1.set i (.own (ds ++ [d]))))
    (hd : (x == ("__debug__" : Str)) = false := by decide) (hcd : (x == ("__classdict__" : Str)) = false := by decide)
    (hbase : attributeBase (.Name x px) "append" C.X.env (eval (.Name x px) C.X.env) = eval (.Name x px) C.X.env := by rfl)
    (hfew : ((backTo cpos (starEach [e] C.X.env)).all (fun x => !x.1) && (backToKw cpos (keywordEach [] C.X.env)).all (fun x => x.1.isSome)
      && decide (([e] : List Expr).length + ([] : List Keyword).length + (if ([] : List Keyword).isEmpty then 0 else 1) < 30)) = true := by rfl)
    (hline : (apos.endLine == cpos.line) = true := by rfl) (hs : starEach [e] C.X.env = (false, eval e C.X.env) :: starEach [] C.X.env := by rfl) (hplain : (backTo cpos (starEach [] C.X.env)).any (·.1) = false := by rfl) :
    DE C ρ (.Call (.Attribute (.Name x px) "append" apos) [e] [] cpos) k := de_append h h0 hN hv hd hcd hbase hfew hline hs hplain
theorem me_extend {ds0 : List PyData} (hN : C.X.N[i]? = some x) (hv : Vis C.X.env.scope x) (h0 : ρ[i]? = some (.own ds0)) (h : DE C ρ e fun ev ρ1 => ∃ zs ds, (ev = .dat (.list zs) ∨ ev = .dat (.tuple zs)) ∧ ρ1[i]? = some (.own ds) ∧ ds.length + zs.length ≤ sizeLine ∧ k (.dat .none) (ρ1.set i (.own (ds ++ zs))))
    (hd : (x == ("__debug__" : Str)) = false := by decide) (hcd : (x == ("__classdict__" : Str)) = false := by decide)
    (hbase : attributeBase (.Name x px) "extend" C.X.env (eval (.Name x px) C.X.env) = eval (.Name x px) C.X.env := by rfl)
    (hfew : ((backTo cpos (starEach [e] C.X.env)).all (fun x => !x.1) && (backToKw cpos (keywordEach [] C.X.env)).all (fun x => x.1.isSome)
      && decide (([e] : List Expr).length + ([] : List Keyword).length + (if ([] : List Keyword).isEmpty then 0 else 1) < 30)) = true := by rfl)
    (hline : (apos.endLine == cpos.line) = true := by rfl) (hs : starEach [e] C.X.env = (false, eval e C.X.env) :: starEach [] C.X.env := by rfl) (hplain : (backTo cpos (starEach [] C.X.env)).any (·.1) = false := by rfl) :
    DE C ρ (.Call (.Attribute (.Name x px) "extend" apos) [e] [] cpos) k := de_extend h h0 hN hv hd hcd hbase hfew hline hs hplain
theorem me_pop {ds : List PyData} {d : PyData} (hN : C.X.N[i]? = some x) (hv : Vis C.X.env.scope x) (h0 : ρ[i]? = some (.own (ds ++ [d]))) (q : k (.dat d) (ρ.set i (.own ds))) (hd : (x == ("__debug__" : Str)) = false := by decide) (hcd : (x == ("__classdict__" : Str)) = false := by decide)
    (hbase : attributeBase (.Name x px) "pop" C.X.env (eval (.Name x px) C.X.env) = eval (.Name x px) C.X.env := by rfl) (hline : (apos.endLine == cpos.line) = true := by rfl) :
    DE C ρ (.Call (.Attribute (.Name x px) "pop" apos) [] [] cpos) k := de_pop h0 q hN hv hd hcd hbase hline
theorem Cal.blk {X : Cx} {fs : FS} {scope : Scope} {s : Shared} {H0 : Hp} {C0 : Addr} {cl : List (Str × Addr)} {fp : List Addr} (h : Cal X x fs) : Cal (blkX X scope s H0 C0 cl fp) x fs := ⟨h.ex⟩
/-! ### comprehensions, by slot -/
theorem pg_blk {X : Cx} {scope : Scope} {j : Nat} (hj : X.N[j]? = some x) (hN : X.N.Nodup) (hl : scope.names.lookup x = some .local) : ∀ s H0 C0 cl fp, PG (blkX X scope s H0 C0 cl fp) (.Name x px) (gName j) := fun s H0 C0 cl fp =>
  have hl' : (blkX X scope s H0 C0 cl fp).env.scope.names.lookup x = some .local := lookup_relabel_local hl
  pg_name (X := blkX X scope s H0 C0 cl fp) hN hj (.inl hl') (.inr hl')
theorem lc_map {scope : Scope} {j : Nat} (hj : C.X.N[j]? = some x) (hN : C.X.N.Nodup) (ok : blkC C.X.N C.X.env.scope scope [(x, j)] = true) (hl : scope.names.lookup x = some .local) (f : PyData → PyData)
    (h : DI C ρ (.Name x px) iter fun ds ρ1 => ρ1[j]? = some .no ∧ ds.length < sizeLine ∧ (∀ d ∈ ds, ∀ s H0 C0 cl fp Hx, DE ⟨blkX C.X scope s H0 C0 cl fp, Hx, C.dr⟩ (ρ1.set j (.dat d)) elt fun ev ρ3 => ev = .dat (f d) ∧ ρ3 = ρ1.set j (.dat d)) ∧ kl (ds.map f) ρ1)
    (hc : C.X.calm = true := by rfl) (hs : ∀ x, foldedSetIterable iter C.X.env x = pure x := by intro _; rfl) : DL C ρ (.ListComp elt [⟨.Name x px, iter, [], 0⟩] scope pos) kl := by
  refine dl_lc (j := j) ?_ (blkOk_by ok) hN (pg_blk hj hN hl) hc hs
  intro σ H R r g
  refine h σ H R r fun J ds ρ1 H1 k1 r1 w h1 => g J ds ρ1 H1 k1 r1 w ?_
  obtain ⟨hno, hz, hst, hk⟩ := h1
  refine ⟨hno, hz, fun i acc ρ2 => ρ2 = ρ1 ∧ acc = (ds.take i).map f, ⟨rfl, rfl⟩, ?_, ?_⟩
  · rintro i d acc ρ2 hd ⟨rfl, rfl⟩ s H0 C0 cl fp Hx
    refine (hst d (List.mem_of_getElem? hd) s H0 C0 cl fp Hx).mono ?_
    rintro ev ρ3 ⟨rfl, rfl⟩
    refine ⟨f d, rfl, ?_, ?_⟩
    · rw [List.set_set]
      exact set_no hno
    · rw [List.take_add_one, hd, List.map_append]
      rfl
  · rintro acc ρ2 ⟨rfl, rfl⟩
    rw [List.take_of_length_le (Nat.le_refl _)]
    exact hk
theorem lc_filter {scope : Scope} {j : Nat} (hj : C.X.N[j]? = some x) (hN : C.X.N.Nodup) (ok : blkC C.X.N C.X.env.scope scope [(x, j)] = true) (hl : scope.names.lookup x = some .local) (t : PyData → Bool) (f : PyData → PyData)
    (h : DI C ρ (.Name x px) iter fun ds ρ1 => ρ1[j]? = some .no ∧ ds.length < sizeLine ∧ (∀ d ∈ ds, ∀ s H0 C0 cl fp Hx, DT ⟨blkX C.X scope s H0 C0 cl fp, Hx, C.dr⟩ (ρ1.set j (.dat d)) c fun b ρ3 => b = t d ∧ ρ3 = ρ1.set j (.dat d)) ∧
      (∀ d ∈ ds, t d = true → ∀ s H0 C0 cl fp Hx, DE ⟨blkX C.X scope s H0 C0 cl fp, Hx, C.dr⟩ (ρ1.set j (.dat d)) elt fun ev ρ3 => ev = .dat (f d) ∧ ρ3 = ρ1.set j (.dat d)) ∧ kl ((ds.filter t).map f) ρ1)
    (hc : C.X.calm = true := by rfl) (hs : ∀ x, foldedSetIterable iter C.X.env x = pure x := by intro _; rfl) : DL C ρ (.ListComp elt [⟨.Name x px, iter, [c], 0⟩] scope pos) kl := by
  refine dl_lcIf (j := j) ?_ (blkOk_by ok) hN (pg_blk hj hN hl) hc hs
  intro σ H R r g
  refine h σ H R r fun J ds ρ1 H1 k1 r1 w h1 => g J ds ρ1 H1 k1 r1 w ?_
  obtain ⟨hno, hz, ht, hst, hk⟩ := h1
  refine ⟨hno, hz, fun i acc ρ2 => ρ2 = ρ1 ∧ acc = ((ds.take i).filter t).map f, ⟨rfl, rfl⟩, ?_, ?_⟩
  · rintro i d acc ρ2 hd ⟨rfl, rfl⟩ s H0 C0 cl fp Hx
    have hm := List.mem_of_getElem? hd
    intro σ2 H2 Q2 r2 g2
    refine ht d hm s H0 C0 cl fp Hx σ2 H2 Q2 r2 fun b ρ3 H3 k3 r3 h3 => g2 b ρ3 H3 k3 r3 ?_
    obtain ⟨rfl, rfl⟩ := h3
    refine ⟨fun hb s H0 C0 cl fp => (hst d hm hb s H0 C0 cl fp Hx).mono ?_, fun hb => ⟨?_, ?_⟩⟩
    · rintro ev ρ3 ⟨rfl, rfl⟩
      refine ⟨f d, rfl, ?_, ?_⟩
      · rw [List.set_set]
        exact set_no hno
      · rw [List.take_add_one, hd]
        simp [List.filter_append, hb]
    · rw [List.set_set]
      exact set_no hno
    · rw [List.take_add_one, hd]
      simp [List.filter_append, hb]
  · rintro acc ρ2 ⟨rfl, rfl⟩
    rw [List.take_of_length_le (Nat.le_refl _)]
    exact hk
end
end DW
namespace DW
open PySem L2 PyProof.Rows
section
variable {C : DC} {kd : PyData → Prop} {d d0 d1 : PyData} {ds : List PyData}
theorem dix_t0 (q : kd d) : DIx C.X (.tuple (d :: ds)) (.int 0) kd := dix_tup (atI_nat (j := 0) rfl) q
theorem dix_t1 (q : kd d) : DIx C.X (.tuple (d0 :: d :: ds)) (.int 1) kd := dix_tup (atI_nat (j := 1) rfl) q
theorem dix_t2 (q : kd d) : DIx C.X (.tuple (d0 :: d1 :: d :: ds)) (.int 2) kd := dix_tup (atI_nat (j := 2) rfl) q
theorem dix_l0 (q : kd d) : DIx C.X (.list (d :: ds)) (.int 0) kd := dix_lst (atI_nat (j := 0) rfl) q
theorem dix_l1 (q : kd d) : DIx C.X (.list (d0 :: d :: ds)) (.int 1) kd := dix_lst (atI_nat (j := 1) rfl) q
theorem dix_l2 (q : kd d) : DIx C.X (.list (d0 :: d1 :: d :: ds)) (.int 2) kd := dix_lst (atI_nat (j := 2) rfl) q
theorem rb {R : RV → Prop} {a b : Bool} (h : R (.dat (.bool a))) (e : b = a) : R (.dat (.bool b)) := e ▸ h
end
section
variable {C : DC} {ρ : Rho} {e c iter elt : Expr} {pos px : Pos} {kl : List PyData → Rho → Prop} {x : Str}
theorem DI.mono {tg : Expr} {kl' : List PyData → Rho → Prop} (h : DI C ρ tg iter kl) (f : ∀ ds ρ', kl ds ρ' → kl' ds ρ') : DI C ρ tg iter kl' := fun σ H R r g => h σ H R r fun J ds ρ1 H1 k1 r1 w h1 => g J ds ρ1 H1 k1 r1 w (f ds ρ1 h1)
theorem lc_rel {scope : Scope} {j : Nat} (hj : C.X.N[j]? = some x) (hN : C.X.N.Nodup) (hl : scope.names.lookup x = some .local) (Pf : PyData → PyData → Prop)
    (h : DI C ρ (.Name x px) iter fun ds ρ1 => ρ1[j]? = some .no ∧ ds.length < sizeLine ∧ (∀ d ∈ ds, ∀ s H0 C0 cl fp Hx, DE ⟨blkX C.X scope s H0 C0 cl fp, Hx, C.dr⟩ (ρ1.set j (.dat d)) elt fun ev ρ3 => ∃ d', ev = .dat d' ∧ Pf d d' ∧ ρ3 = ρ1.set j (.dat d)) ∧
      ∀ zs : List PyData, zs.length = ds.length → (∀ (i : Nat) d z, ds[i]? = some d → zs[i]? = some z → Pf d z) → kl zs ρ1) (ok : blkC C.X.N C.X.env.scope scope [(x, j)] = true := by rfl)
    (hc : C.X.calm = true := by rfl) (hs : ∀ x, foldedSetIterable iter C.X.env x = pure x := by intro _; rfl) : DL C ρ (.ListComp elt [⟨.Name x px, iter, [], 0⟩] scope pos) kl := by
  refine dl_lc (j := j) ?_ (blkOk_by ok) hN (pg_blk hj hN hl) hc hs
  refine h.mono ?_
  rintro ds ρ1 ⟨hno, hz, hst, hk⟩
  refine ⟨hno, hz, fun i acc ρ2 => ρ2 = ρ1 ∧ acc.length = i ∧ ∀ (n : Nat) d z, ds[n]? = some d → acc[n]? = some z → Pf d z, ⟨rfl, rfl, fun n d z _ e => by simp at e⟩, ?_, ?_⟩
  · rintro i d acc ρ2 hd ⟨rfl, hi, ha⟩ s H0 C0 cl fp Hx
    refine (hst d (List.mem_of_getElem? hd) s H0 C0 cl fp Hx).mono ?_
    rintro ev ρ3 ⟨d', rfl, hp, rfl⟩
    refine ⟨d', rfl, ?_, ?_, ?_⟩
    · rw [List.set_set]
      exact set_no hno
    · rw [List.length_append, hi]
      rfl
    · intro n d2 z h1 h2
      by_cases hn : n < acc.length
      · rw [List.getElem?_append_left hn] at h2
        exact ha n d2 z h1 h2
      · rw [List.getElem?_append_right (by omega)] at h2
        have hn2 : n - acc.length = 0 := by
          rcases Nat.eq_zero_or_pos (n - acc.length) with h | h
          · exact h
          · rw [List.getElem?_eq_none (by rw [List.length_singleton]; omega)] at h2
            exact nomatch h2
        rw [hn2] at h2
        have hni : n = i := by omega
        subst hni
        rw [hd] at h1
        cases h1
        cases h2
        exact hp
  · rintro acc ρ2 ⟨rfl, hi, ha⟩
    exact hk acc hi ha
theorem lc_mapA {α : Type} {scope : Scope} {j : Nat} (hj : C.X.N[j]? = some x) (hN : C.X.N.Nodup) (hl : scope.names.lookup x = some .local) (g f : α → PyData)
    (h : DI C ρ (.Name x px) iter fun ds ρ1 => ∃ zs : List α, ds = zs.map g ∧ ρ1[j]? = some .no ∧ ds.length < sizeLine ∧ (∀ z ∈ zs, ∀ s H0 C0 cl fp Hx, DE ⟨blkX C.X scope s H0 C0 cl fp, Hx, C.dr⟩ (ρ1.set j (.dat (g z))) elt fun ev ρ3 => ev = .dat (f z) ∧ ρ3 = ρ1.set j (.dat (g z))) ∧ kl (zs.map f) ρ1) (ok : blkC C.X.N C.X.env.scope scope [(x, j)] = true := by rfl)
    (hc : C.X.calm = true := by rfl) (hs : ∀ x, foldedSetIterable iter C.X.env x = pure x := by intro _; rfl) : DL C ρ (.ListComp elt [⟨.Name x px, iter, [], 0⟩] scope pos) kl := by
  refine dl_lc (j := j) ?_ (blkOk_by ok) hN (pg_blk hj hN hl) hc hs
  refine h.mono ?_
  rintro ds ρ1 ⟨zs, rfl, hno, hz, hst, hk⟩
  refine ⟨hno, hz, fun i acc ρ2 => ρ2 = ρ1 ∧ acc = (zs.take i).map f, ⟨rfl, rfl⟩, ?_, ?_⟩
  · rintro i d acc ρ2 hd ⟨rfl, rfl⟩ s H0 C0 cl fp Hx
    rw [List.getElem?_map] at hd
    obtain ⟨z, hz2, rfl⟩ := Option.map_eq_some_iff.mp hd
    refine (hst z (List.mem_of_getElem? hz2) s H0 C0 cl fp Hx).mono ?_
    rintro ev ρ3 ⟨rfl, rfl⟩
    refine ⟨f z, rfl, ?_, ?_⟩
    · rw [List.set_set]
      exact set_no hno
    · rw [List.take_add_one, hz2, List.map_append]
      rfl
  · rintro acc ρ2 ⟨rfl, rfl⟩
    rw [List.length_map, List.take_of_length_le (Nat.le_refl _)]
    exact hk
theorem lc_filterA {α : Type} {scope : Scope} {j : Nat} (hj : C.X.N[j]? = some x) (hN : C.X.N.Nodup) (hl : scope.names.lookup x = some .local) (t : α → Bool) (g f : α → PyData)
    (h : DI C ρ (.Name x px) iter fun ds ρ1 => ∃ zs : List α, ds = zs.map g ∧ ρ1[j]? = some .no ∧ ds.length < sizeLine ∧ (∀ z ∈ zs, ∀ s H0 C0 cl fp Hx, DT ⟨blkX C.X scope s H0 C0 cl fp, Hx, C.dr⟩ (ρ1.set j (.dat (g z))) c fun b ρ3 => b = t z ∧ ρ3 = ρ1.set j (.dat (g z))) ∧
      (∀ z ∈ zs, t z = true → ∀ s H0 C0 cl fp Hx, DE ⟨blkX C.X scope s H0 C0 cl fp, Hx, C.dr⟩ (ρ1.set j (.dat (g z))) elt fun ev ρ3 => ev = .dat (f z) ∧ ρ3 = ρ1.set j (.dat (g z))) ∧ kl ((zs.filter t).map f) ρ1) (ok : blkC C.X.N C.X.env.scope scope [(x, j)] = true := by rfl)
    (hc : C.X.calm = true := by rfl) (hs : ∀ x, foldedSetIterable iter C.X.env x = pure x := by intro _; rfl) : DL C ρ (.ListComp elt [⟨.Name x px, iter, [c], 0⟩] scope pos) kl := by
  refine dl_lcIf (j := j) ?_ (blkOk_by ok) hN (pg_blk hj hN hl) hc hs
  refine h.mono ?_
  rintro ds ρ1 ⟨zs, rfl, hno, hz, ht, hst, hk⟩
  refine ⟨hno, hz, fun i acc ρ2 => ρ2 = ρ1 ∧ acc = ((zs.take i).filter t).map f, ⟨rfl, rfl⟩, ?_, ?_⟩
  · rintro i d acc ρ2 hd ⟨rfl, rfl⟩ s H0 C0 cl fp Hx
    rw [List.getElem?_map] at hd
    obtain ⟨z, hz2, rfl⟩ := Option.map_eq_some_iff.mp hd
    have hm := List.mem_of_getElem? hz2
    intro σ2 H2 Q2 r2 g2
    refine ht z hm s H0 C0 cl fp Hx σ2 H2 Q2 r2 fun b ρ3 H3 k3 r3 h3 => g2 b ρ3 H3 k3 r3 ?_
    obtain ⟨rfl, rfl⟩ := h3
    refine ⟨fun hb s H0 C0 cl fp => (hst z hm hb s H0 C0 cl fp Hx).mono ?_, fun hb => ⟨?_, ?_⟩⟩
    · rintro ev ρ3 ⟨rfl, rfl⟩
      refine ⟨f z, rfl, ?_, ?_⟩
      · rw [List.set_set]
        exact set_no hno
      · rw [List.take_add_one, hz2]
        simp [List.filter_append, hb]
    · rw [List.set_set]
      exact set_no hno
    · rw [List.take_add_one, hz2]
      simp [List.filter_append, hb]
  · rintro acc ρ2 ⟨rfl, rfl⟩
    rw [List.length_map, List.take_of_length_le (Nat.le_refl _)]
    exact hk
theorem nT {b : Bool} (h : (!b) = true) : b = false := by cases b <;> first | rfl | exact nomatch h
theorem nF {b : Bool} (h : (!b) = false) : b = true := by cases b <;> first | rfl | exact nomatch h
theorem nTd {p : Prop} [Decidable p] (h : (!decide p) = true) : ¬ p := of_decide_eq_false (nT h)
theorem nFd {p : Prop} [Decidable p] (h : (!decide p) = false) : p := of_decide_eq_true (nF h)
theorem dTr {p : Prop} [Decidable p] (h : decide p = true) : p := of_decide_eq_true h
theorem dFa {p : Prop} [Decidable p] (h : decide p = false) : ¬ p := of_decide_eq_false h
theorem dc_allA {α : Type} {kd : PyData → Prop} {zs : List α} {f : α → Bool} (hc : C.X.calm = true) (q : kd (.bool (zs.all f))) : DCall C.X (.builtin "all") [.list (zs.map fun z => .bool (f z))] kd := by
  have := dc_all (C := C) (kd := kd) (bs := zs.map f) hc (by rw [List.all_map]; exact q)
  rw [List.map_map] at this
  exact this
theorem dc_anyA {α : Type} {kd : PyData → Prop} {zs : List α} {f : α → Bool} (hc : C.X.calm = true) (q : kd (.bool (zs.any f))) : DCall C.X (.builtin "any") [.list (zs.map fun z => .bool (f z))] kd := by
  have := dc_any (C := C) (kd := kd) (bs := zs.map f) hc (by rw [List.any_map]; exact q)
  rw [List.map_map] at this
  exact this
theorem dc_sumA {α : Type} {kd : PyData → Prop} {zs : List α} {f : α → Int} (hc : C.X.calm = true) (q : kd (.int (zs.map f).sum)) : DCall C.X (.builtin "sum") [.list (zs.map fun z => .int (f z))] kd := by
  have := dc_sum (C := C) (kd := kd) (ns := zs.map f) hc q
  rw [List.map_map] at this
  exact this
theorem Rm.blk {X : Cx} {Ha Hx : Hp} {dr : Option Addr} {scope : Scope} {s : Shared} {H0 : Hp} {C0 : Addr} {cl : List (Str × Addr)} {fp : List Addr} (h : Rm ⟨X, Ha, dr⟩) : Rm ⟨blkX X scope s H0 C0 cl fp, Hx, dr⟩ := h
theorem Gd.blk {X : Cx} {Ha Hx : Hp} {dr : Option Addr} {scope : Scope} {s : Shared} {H0 : Hp} {C0 : Addr} {cl : List (Str × Addr)} {fp : List Addr} (h : Gd ⟨X, Ha, dr⟩) : Gd ⟨blkX X scope s H0 C0 cl fp, Hx, dr⟩ := h
theorem rm_of {C : DC} {k : Nat} (h : Room k C.X.A) : Rm C := by have := h.un; unfold Rm; omega
theorem sIx_nat {n dflt j : Nat} : HT.sIx n dflt (some (j : Int)) = min j n := by
  unfold HT.sIx
  simp
  omega
theorem cut_drop (xs : List PyData) (j : Nat) : cutD xs (some (j : Int)) none = xs.drop j := by
  unfold cutD
  rw [sIx_nat]
  show (xs.drop (min j xs.length)).take (xs.length - min j xs.length) = _
  by_cases h : j ≤ xs.length
  · rw [Nat.min_eq_left h, List.take_of_length_le (by rw [List.length_drop]; omega)]
  · rw [List.drop_eq_nil_of_le (by omega), List.drop_eq_nil_of_le (by omega), List.take_nil]
theorem cut_take (xs : List PyData) (j : Nat) : cutD xs none (some (j : Int)) = xs.take j := by
  unfold cutD
  rw [sIx_nat]
  show (xs.drop 0).take (min j xs.length - 0) = _
  rw [List.drop_zero, Nat.sub_zero]
  by_cases h : j ≤ xs.length
  · rw [Nat.min_eq_left h]
  · rw [List.take_of_length_le (by omega), List.take_of_length_le (by omega)]
theorem cut_1 (d : PyData) (ds : List PyData) : cutD (d :: ds) (some 1) none = ds := cut_drop (d :: ds) 1
theorem de_fB {X : Cx} {es : List Expr} {p : Pos} {k : EV → Rho → Prop} {Hx : Hp} {dr : Option Addr} {scope : Scope} {s : Shared} {H0 : Hp} {C0 : Addr} {cl : List (Str × Addr)} {fp : List Addr} {fs : FS} (F : Cal X x fs) (h : DAv ⟨blkX X scope s H0 C0 cl fp, Hx, dr⟩ ρ (e :: es) fun avs ρ1 => fs avs fun rv => k (.dat rv.data) ρ1) (hg : Gl (blkX X scope s H0 C0 cl fp) x := by rfl)
    (hdb : (x == ("__debug__" : Str)) = false := by decide) (he : starEach (e :: es) (blkX X scope s H0 C0 cl fp).env = (false, eval e (blkX X scope s H0 C0 cl fp).env) :: starEach es (blkX X scope s H0 C0 cl fp).env := by rfl) (hpl : (backTo pos (starEach es (blkX X scope s H0 C0 cl fp).env)).any (·.1) = false := by rfl) :
    DE ⟨blkX X scope s H0 C0 cl fp, Hx, dr⟩ ρ (.Call (.Name x p) (e :: es) [] pos) k := de_f (Cal.blk F) h hg hdb he hpl
end
end DW
namespace DW
open PySem L2 PyProof.Rows
section
variable {C : DC} {ρ : Rho} {e : Expr} {pos px p2 p3 : Pos} {x : Str} {k : EV → Rho → Prop} {nx : Rho → Prop} {rt : RV → Prop} {bk ct : Rho → Prop} {i : Nat}
/-- what may stand at a place of the drawn list -/
def Dv (n v : Int) : Prop := 0 ≤ v ∧ (n = 0 ∨ n = 2 ∨ n = 1 ∧ v < 2 ^ 61)
theorem dv_at {H : Hp} {a : Addr} {n : Int} (h : Drawn H a) (hn : n = 0 ∨ n = 1 ∨ n = 2) : ∃ vs v, H a = some (.lst vs) ∧ atI vs n = some (.int v) ∧ Dv n v := by
  obtain ⟨g, m, c, h, h0, h1, h2, h3⟩ := h
  rcases hn with rfl | rfl | rfl
  · exact ⟨_, g, h, rfl, h0, .inl rfl⟩
  · exact ⟨_, m, h, rfl, h1, .inr (.inr ⟨rfl, h2⟩)⟩
  · exact ⟨_, c, h, rfl, h3, .inr (.inl rfl)⟩
theorem dv_set {H : Hp} {a : Addr} {n v : Int} (h : Drawn H a) (hv : Dv n v) : ∃ vs j, H a = some (.lst vs) ∧ ixN vs.length n = some j ∧ Drawn (upd H a (.lst (vs.set j (.int v)))) a := by
  obtain ⟨g, m, c, h, h0, h1, h2, h3⟩ := h
  obtain ⟨hv0, rfl | rfl | ⟨rfl, hv1⟩⟩ := hv
  · exact ⟨_, 0, h, rfl, v, m, c, by unfold upd; rw [if_pos rfl]; rfl, hv0, h1, h2, h3⟩
  · exact ⟨_, 2, h, rfl, g, m, v, by unfold upd; rw [if_pos rfl]; rfl, h0, h1, h2, hv0⟩
  · exact ⟨_, 1, h, rfl, g, v, c, by unfold upd; rw [if_pos rfl]; rfl, h0, hv0, hv1, h3⟩
theorem de_drwIx {n : Int} {j} (hN : C.X.N[i]? = some x) (hv : Vis C.X.env.scope x) (h : ρ[i]? = some .drw) (hn : n = 0 ∨ n = 1 ∨ n = 2) (q : ∀ v : Int, Dv n v → k (.dat (.int v)) ρ) (hd : (x == ("__debug__" : Str)) = false := by decide) (hcd : (x == ("__classdict__" : Str)) = false := by decide) (hs : PlainIx (.Constant (.int n) j p2) := by exact fun _ _ => rfl) :
    DE C ρ (.Subscript (.Name x px) (.Constant (.int n) j p2) pos) k := fun σ H Q r g => by
  obtain ⟨l, h1, h2⟩ := Rs.drw r h
  obtain ⟨vs, v, e1, e2, e3⟩ := dv_at (r.fr.drw l h2) hn
  exact WE.of (pe_ix ix_list (pe_var hN hv hd hcd) pe_int hs) ⟨.ref l, h1, l, vs, n, .int v, rfl, rfl, .of e1, e2, g _ (.dat (.int v)) ρ H (KT.refl H) r (.int v) (q v e3)⟩
theorem ds_drwSet {n : Int} {j} (hN : C.X.N[i]? = some x) (hv : Vis C.X.env.scope x) (h : DE C ρ e fun ev ρ1 => ∃ v : Int, ev = .dat (.int v) ∧ Dv n v ∧ ρ1[i]? = some .drw ∧ nx ρ1) (hd : (x == ("__debug__" : Str)) = false := by decide) (hcd : (x == ("__classdict__" : Str)) = false := by decide)
    (hs : swapsWithSole [.Subscript (.Name x px) (.Constant (.int n) j p2) p3] e pos.line C.X.env = pure false := by rfl) (hw : swappedStores [.Subscript (.Name x px) (.Constant (.int n) j p2) p3] e C.X.env = pure none := by rfl)
    (h1 : (assignEach [.Subscript (.Name x px) (.Constant (.int n) j p2) p3] C.X.env).map (·.2) = [assign (.Subscript (.Name x px) (.Constant (.int n) j p2) p3) C.X.env] := by rfl) 
    (ha : ∀ v, assign (.Subscript (.Name x px) (.Constant (.int n) j p2) p3) C.X.env v = (do
      let ov ← holding [v] (eval (.Name x px) C.X.env)
      let iv ← holding [v, ov] (eval (.Constant (.int n) j p2) C.X.env)
      standAt p3
      holding [v, ov, iv] (setItem ov iv v)
      release [v, ov, iv] []) := by intro _; rfl) :
    DS C ρ (.Assign [.Subscript (.Name x px) (.Constant (.int n) j p2) p3] e pos) nx rt bk ct := fun σ H E r ac => by
  refine WS.of (ps_asg WE.pe (pg_sub (pe_var hN hv hd hcd) pe_int set_list ha) hs hw h1) ?_
  refine h σ H _ r fun v ev ρ1 H1 k1 r1 o1 h1 => ?_
  obtain ⟨v, rfl, hV, hdr, q⟩ := h1
  cases o1
  obtain ⟨l, h3, h2⟩ := Rs.drw r1 hdr
  obtain ⟨vs, jj, e1, e2, e3⟩ := dv_set (r1.fr.drw l h2) hV
  refine ⟨.ref l, h3, l, vs, n, jj, rfl, rfl, e1, e2, ?_⟩
  refine ac.nx ρ1 σ _ (k1.trans (KT.lst e1)) (rs_call r1 ⟨?_, KT.lst e1, ?_⟩) q
  · intro b o hb hne
    unfold upd
    rw [if_neg (fun z => hne (by rw [h2, z]))]
    exact hb
  · intro a ha
    rw [h2] at ha
    cases ha
    exact e3
theorem cmul_mod {a b j : Int} (h0 : 0 < b) (h : b ≤ 2 ^ 64) : CMul (a % b) j := by
  have h1 := Int.emod_nonneg a (show b ≠ 0 by omega)
  have h2 := Int.emod_lt_of_pos a h0
  exact .inl ⟨by omega, by omega⟩
theorem len_scr {p : Pos} {ns : List Int} (hN : C.X.N[i]? = some x) (hv : Vis C.X.env.scope x) (h : ρ[i]? = some (.scr ns)) (hm : C.X.mg "len" = none) (q : k (.dat (.int ns.length)) ρ) (hg : Gl C.X "len" := by rfl) (hd : (x == ("__debug__" : Str)) = false := by decide) (hcd : (x == ("__classdict__" : Str)) = false := by decide)
    (he : starEach [.Name x px] C.X.env = (false, eval (.Name x px) C.X.env) :: starEach [] C.X.env := by rfl) (hpl : (backTo pos (starEach [] C.X.env)).any (·.1) = false := by rfl) : DE C ρ (.Call (.Name "len" p) [.Name x px] [] pos) k := de_lenScr hm h q hN hv hg hd hcd he hpl
end
section
variable {C : DC} {ρ : Rho} {c iter elt : Expr} {pos px py spos : Pos} {x y : Str} {kl : List PyData → Rho → Prop} {nx : Rho → Prop} {rt : RV → Prop} {bk ct : Rho → Prop} {i j : Nat} {scope : Scope}
/-- a comprehension's passes, without tests -/
def LcH (C : DC) (ρ : Rho) (scope : Scope) (x : Str) (px : Pos) (j : Nat) (elt iter : Expr) (kl : List PyData → Rho → Prop) : Prop :=
  DI C ρ (.Name x px) iter fun ds ρ1 => ρ1[j]? = some .no ∧ ds.length < sizeLine ∧ ∃ I : Nat → List PyData → Rho → Prop, I 0 [] ρ1 ∧
      (∀ i d acc ρ2, ds[i]? = some d → I i acc ρ2 → ∀ s H0 C0 cl fp Hx, DE ⟨blkX C.X scope s H0 C0 cl fp, Hx, C.dr⟩ (ρ2.set j (.dat d)) elt fun ev ρ3 => ∃ d', ev = .dat d' ∧ I (i + 1) (acc ++ [d']) (ρ3.set j .no)) ∧ ∀ acc ρ2, I ds.length acc ρ2 → kl acc ρ2
theorem lch_map {α : Type} (g f : α → PyData) (h : DI C ρ (.Name x px) iter fun ds ρ1 => ∃ zs : List α, ds = zs.map g ∧ ρ1[j]? = some .no ∧ ds.length < sizeLine ∧ (∀ z ∈ zs, ∀ s H0 C0 cl fp Hx, DE ⟨blkX C.X scope s H0 C0 cl fp, Hx, C.dr⟩ (ρ1.set j (.dat (g z))) elt fun ev ρ3 => ev = .dat (f z) ∧ ρ3 = ρ1.set j (.dat (g z))) ∧ kl (zs.map f) ρ1) :
    LcH C ρ scope x px j elt iter kl := by
  refine h.mono ?_
  rintro ds ρ1 ⟨zs, rfl, hno, hz, hst, hk⟩
  refine ⟨hno, hz, fun i acc ρ2 => ρ2 = ρ1 ∧ acc = (zs.take i).map f, ⟨rfl, rfl⟩, ?_, ?_⟩
  · rintro i d acc ρ2 hd ⟨rfl, rfl⟩ s H0 C0 cl fp Hx
    rw [List.getElem?_map] at hd
    obtain ⟨z, hz2, rfl⟩ := Option.map_eq_some_iff.mp hd
    refine (hst z (List.mem_of_getElem? hz2) s H0 C0 cl fp Hx).mono ?_
    rintro ev ρ3 ⟨rfl, rfl⟩
    refine ⟨f z, rfl, ?_, ?_⟩
    · rw [List.set_set]
      exact set_no hno
    · rw [List.take_add_one, hz2, List.map_append]
      rfl
  · rintro acc ρ2 ⟨rfl, rfl⟩
    rw [List.length_map, List.take_of_length_le (Nat.le_refl _)]
    exact hk
theorem st_lcF (hi : C.X.N[i]? = some y) (hj : C.X.N[j]? = some x) (hN : C.X.N.Nodup) (h : LcH C ρ scope x px j elt iter fun zs ρ' => nx (ρ'.set i (.dat (.list zs)))) (hl : scope.names.lookup x = some .local := by rfl) (hyl : C.X.env.scope.names.lookup y = some .local := by rfl) (ok : blkC C.X.N C.X.env.scope scope [(x, j)] = true := by rfl)
    (hsw : swapsWith (.ListComp elt [⟨.Name x px, iter, [], 0⟩] scope pos) (some (.Name y py)) spos.line C.X.env = pure true := by rfl) (hc : C.X.calm = true := by rfl) (hs : ∀ x, foldedSetIterable iter C.X.env x = pure x := by intro _; rfl) :
    DS C ρ (.Assign [.Name y py] (.ListComp elt [⟨.Name x px, iter, [], 0⟩] scope pos) spos) nx rt bk ct :=
  ds_newF (ps_lc (blkOk_by ok) hN hi hyl (pg_blk hj hN hl) hsw hc hs) fun σ H Q r g => lc_te h Q r g
theorem st_lcL (hi : C.X.N[i]? = some y) (hj : C.X.N[j]? = some x) (hN : C.X.N.Nodup) (h : LcH C ρ scope x px j elt iter fun zs ρ' => nx (ρ'.set i (.own zs))) (hl : scope.names.lookup x = some .local := by rfl) (hyl : C.X.env.scope.names.lookup y = some .local := by rfl) (ok : blkC C.X.N C.X.env.scope scope [(x, j)] = true := by rfl)
    (hsw : swapsWith (.ListComp elt [⟨.Name x px, iter, [], 0⟩] scope pos) (some (.Name y py)) spos.line C.X.env = pure true := by rfl) (hc : C.X.calm = true := by rfl) (hs : ∀ x, foldedSetIterable iter C.X.env x = pure x := by intro _; rfl) :
    DS C ρ (.Assign [.Name y py] (.ListComp elt [⟨.Name x px, iter, [], 0⟩] scope pos) spos) nx rt bk ct :=
  ds_newL (ps_lc (blkOk_by ok) hN hi hyl (pg_blk hj hN hl) hsw hc hs) fun σ H Q r g => lc_te h Q r g
end
end DW
namespace DW
open PySem L2 PyProof.Rows
section
variable {C : DC} {K : PySem.W.Frag} {H0 : Hp} {dr : Option Addr} {ρ ρ' : Rho} {σ τ : L2.St} {H H' : Hp} {e a b c iter kx vx : Expr} {es : List Expr} {pos p px : Pos} {x : Str} {j : Nat} {kl : List PyData → Rho → Prop} {kk : List (Key × PyData) → Rho → Prop}
theorem KT.dK {H : Hp} {l : Addr} {xs ys : List (Key × V)} (h : H l = some (.dK xs)) : KT H (upd H l (.dK ys)) := ⟨fun b zs e => by
    rw [upd_ne (fun z => by rw [z, h] at e; cases e)]
    exact e, fun b o u e => by
    rw [upd_ne (fun z => by rw [z, h] at e; cases e)]
    exact e⟩
theorem rs_pinD {q : Addr} {vs : List (Key × V)} (r : Rs K H0 dr ρ σ H) (n : New H0 dr ρ σ q) (hq : H q = some (.dK vs)) : Rs K (pin H0 q (.dK vs)) dr ρ σ H := by
  refine ⟨⟨fun b o h hd => ?_, ⟨fun b xs h => ?_, fun b o u h => ?_⟩, r.fr.drw⟩, r.len, fun i sv h => ?_, r.sep⟩
  · by_cases hb : b = q
    · subst hb
      rw [pin_same] at h
      cases h
      exact hq
    · rw [pin_ne hb] at h
      exact r.fr.ext b o h hd
  · by_cases hb : b = q
    · subst hb
      rw [pin_same] at h
      cases h
    · rw [pin_ne hb] at h
      exact r.fr.kt.t b xs h
  · by_cases hb : b = q
    · subst hb
      rw [pin_same] at h
      cases h
    · rw [pin_ne hb] at h
      exact r.fr.kt.f b o u h
  · have hs := r.sl i sv h
    cases sv with
    | no => exact True.intro
    | dat d => exact hs
    | own ds =>
      obtain ⟨l, h1, h2, h3, ws, h4, h5⟩ := hs
      exact ⟨l, h1, by rw [pin_ne (own_ne n r h rfl h1)]; exact h2, h3, ws, h4, h5⟩
    | dic ds =>
      obtain ⟨l, h1, h2, h3, ws, h4, h5⟩ := hs
      exact ⟨l, h1, by rw [pin_ne (own_ne n r h rfl h1)]; exact h2, h3, ws, h4, h5⟩
    | drw => exact hs
    | scr ns => exact hs
theorem rs_unpinD {q : Addr} {vs : List (Key × V)} (r : Rs K (pin H0 q (.dK vs)) dr ρ σ H) (n1 : H0 q = none) (n2 : dr ≠ some q) : Rs K H0 dr ρ σ H ∧ H q = some (.dK vs) ∧ New H0 dr ρ σ q := by
  have hne : ∀ b o, H0 b = some o → b ≠ q := fun b o h z => by rw [z, n1] at h; cases h
  have hq := r.fr.ext q _ pin_same n2
  refine ⟨⟨⟨fun b o h hd => r.fr.ext b o (by rw [pin_ne (hne b o h)]; exact h) hd, ⟨fun b xs h => r.fr.kt.t b xs (by rw [pin_ne (hne b _ h)]; exact h), fun b o u h => r.fr.kt.f b o u (by rw [pin_ne (hne b _ h)]; exact h)⟩, r.fr.drw⟩, r.len, fun i sv h => ?_, r.sep⟩, hq, ⟨n1, n2, fun i sv h ho e => ?_⟩⟩
  · have hs := r.sl i sv h
    cases sv with
    | no => exact True.intro
    | dat d => exact hs
    | own ds =>
      obtain ⟨l, h1, h2, h3, ws, h4, h5⟩ := hs
      have hl : l ≠ q := fun z => by rw [z, pin_same] at h2; cases h2
      exact ⟨l, h1, by rw [pin_ne hl] at h2; exact h2, h3, ws, h4, h5⟩
    | dic ds =>
      obtain ⟨l, h1, h2, h3, ws, h4, h5⟩ := hs
      have hl : l ≠ q := fun z => by rw [z, pin_same] at h2; cases h2
      exact ⟨l, h1, by rw [pin_ne hl] at h2; exact h2, h3, ws, h4, h5⟩
    | drw => exact hs
    | scr ns => exact hs
  · have hs := r.sl i sv h
    cases sv with
    | own ds =>
      obtain ⟨l, h1, h2, _⟩ := hs
      rw [e] at h1
      cases h1
      rw [pin_same] at h2
      cases h2
    | dic ds =>
      obtain ⟨l, h1, h2, _⟩ := hs
      rw [e] at h1
      cases h1
      rw [pin_same] at h2
      cases h2
    | no => cases ho
    | dat d => cases ho
    | drw => cases ho
    | scr ns => cases ho
theorem rs_otherD {q : Addr} {vs vs' : List (Key × V)} (r : Rs K H0 dr ρ σ H) (n : New H0 dr ρ σ q) (hq : H q = some (.dK vs)) : Rs K H0 dr ρ σ (L2.upd H q (.dK vs')) := by
  have kt : KT H (L2.upd H q (.dK vs')) := KT.dK hq
  refine ⟨⟨fun b w h hd => ?_, r.fr.kt.trans kt, fun a h => ?_⟩, r.len, fun i sv h => ?_, r.sep⟩
  · rw [upd_ne (fun z => by rw [z, n.e] at h; cases h)]
    exact r.fr.ext b w h hd
  · obtain ⟨g, m, c, z, t⟩ := r.fr.drw a h
    exact ⟨g, m, c, by
      rw [upd_ne (fun z => n.d (by rw [h, z]))]
      exact z, t⟩
  · have hs := r.sl i sv h
    cases sv with
    | no => exact True.intro
    | dat d =>
      obtain ⟨x, h1, h2⟩ := hs
      exact ⟨x, h1, h2.kt kt⟩
    | own ds =>
      obtain ⟨l, h1, h2, h3, ws, h4, h5⟩ := hs
      exact ⟨l, h1, h2, h3, ws, by rw [upd_ne (own_ne n r h rfl h1)]; exact h4, h5.kt kt⟩
    | dic ds =>
      obtain ⟨l, h1, h2, h3, ws, h4, h5⟩ := hs
      exact ⟨l, h1, h2, h3, ws, by rw [upd_ne (own_ne n r h rfl h1)]; exact h4, h5.kt kt⟩
    | drw => exact hs
    | scr ns =>
      obtain ⟨a, h1, h2⟩ := hs
      exact ⟨a, h1, h2.kt kt⟩
def kD : Key → PyData
  | .inl i => .int i
  | .inr x => .str x
theorem kD_rp {K : PySem.W.Frag} {v : V} {k : Key} (h : Rp K H v (kD k)) : v = kV k := by
  cases k with
  | inl i => cases h; rfl
  | inr x => cases h; rfl
theorem kD_of {K : PySem.W.Frag} (k : Key) : Rp K H (kV k) (kD k) := by
  cases k with
  | inl i => exact .int i
  | inr x => exact .str x
def putD (kvs : List (Key × PyData)) (k : Key) (v : PyData) : List (Key × PyData) :=
  if (kvs.any fun kv => decide (kv.1 = k)) = true then kvs.map (fun kv => if kv.1 = k then (kv.1, v) else kv) else kvs ++ [(k, v)]
theorem putD_len (kvs : List (Key × PyData)) (k : Key) (v : PyData) : (putD kvs k v).length ≤ kvs.length + 1 := by
  unfold putD
  split
  · rw [List.length_map]; omega
  · rw [List.length_append, List.length_singleton]; omega
theorem RpK.length : ∀ {vs : List (Key × V)} {ds : List (Key × PyData)}, RpK K H vs ds → vs.length = ds.length
  | _, _, .nil => rfl
  | _, _, .cons _ q => by rw [List.length_cons, List.length_cons, RpK.length q]
theorem RpK.any (k : Key) : ∀ {vs : List (Key × V)} {ds : List (Key × PyData)}, RpK K H vs ds → (vs.any fun kv => decide (kv.1 = k)) = ds.any fun kv => decide (kv.1 = k)
  | _, _, .nil => rfl
  | _, _, .cons _ q => by rw [List.any_cons, List.any_cons, RpK.any k q]
theorem RpK.rep {v : V} {d : PyData} (k : Key) (r : Rp K H v d) : ∀ {vs : List (Key × V)} {ds : List (Key × PyData)}, RpK K H vs ds → RpK K H (vs.map fun kv => if kv.1 = k then (kv.1, v) else kv) (ds.map fun kv => if kv.1 = k then (kv.1, d) else kv)
  | _, _, .nil => .nil
  | _, _, .cons (k := k') h q => by
    rw [List.map_cons, List.map_cons]
    by_cases e : k' = k
    · rw [if_pos e, if_pos e]; exact .cons r (RpK.rep k r q)
    · rw [if_neg e, if_neg e]; exact .cons h (RpK.rep k r q)
theorem RpK.snoc {v : V} {d : PyData} (k : Key) (r : Rp K H v d) : ∀ {vs : List (Key × V)} {ds : List (Key × PyData)}, RpK K H vs ds → RpK K H (vs ++ [(k, v)]) (ds ++ [(k, d)])
  | _, _, .nil => .cons r .nil
  | _, _, .cons h q => .cons h (RpK.snoc k r q)
theorem RpK.put {v : V} {d : PyData} {k : Key} {vs : List (Key × V)} {ds : List (Key × PyData)} (h : RpK K H vs ds) (r : Rp K H v d) : RpK K H (putK vs k v) (putD ds k d) := by
  unfold putK putD
  rw [h.any k]
  split
  · exact h.rep k r
  · exact h.snoc k r
theorem RpK.keys : ∀ {vs : List (Key × V)} {ds : List (Key × PyData)}, RpK K H vs ds → RpL K H' (vs.map fun kv => kV kv.1) (ds.map fun kv => kD kv.1)
  | _, _, .nil => .nil
  | _, _, .cons (k := k) _ q => .cons (kD_of k) (RpK.keys q)
/-- a new dict -/
def DDi (C : DC) (ρ : Rho) (e : Expr) (kk : List (Key × PyData) → Rho → Prop) : Prop :=
  ∀ σ H (Q : VK), C.Rs ρ σ H → (∀ q vs kvs ρ' H', KT H H' → C.Rs ρ' σ H' → New C.H0 C.dr ρ' σ q → H' q = some (.dK vs) → RpK C.X.K H' vs kvs → kk kvs ρ' → Q (.ref q) H') → WE C.X e σ H Q
theorem dd_dc {scope : Scope} (hj : C.X.N[j]? = some x) (hN : C.X.N.Nodup)
    (h : DI C ρ (.Name x px) iter fun ds ρ1 => ρ1[j]? = some .no ∧ ds.length < sizeLine ∧ ∃ I : Nat → List (Key × PyData) → Rho → Prop, I 0 [] ρ1 ∧
      (∀ i d acc ρ2, ds[i]? = some d → I i acc ρ2 → ∀ Hx s H0 C0 cl fp, DE ⟨blkX C.X scope s H0 C0 cl fp, Hx, C.dr⟩ (ρ2.set j (.dat d)) kx fun ev ρ3 => ∃ k, ev = .dat (kD k) ∧ ∀ s H0 C0 cl fp, DE ⟨blkX C.X scope s H0 C0 cl fp, Hx, C.dr⟩ ρ3 vx fun ev ρ4 => ∃ d', ev = .dat d' ∧ I (i + 1) (putD acc k d') (ρ4.set j .no)) ∧ ∀ acc ρ2, I ds.length acc ρ2 → kk acc ρ2)
    (hl : scope.names.lookup x = some .local := by rfl) (ok : blkC C.X.N C.X.env.scope scope [(x, j)] = true := by rfl) (hc : C.X.calm = true := by rfl) (hs : ∀ x, foldedSetIterable iter C.X.env x = pure x := by intro _; rfl) :
    DDi C ρ (.DictComp kx vx [⟨.Name x px, iter, [], 0⟩] scope pos) kk := fun σ H Q r g => by
  refine WE.of (pe_dc (own := [(x, j)]) hc hN WI.pi (blkOk_by ok) (pg_blk hj hN hl) (fun _ _ _ _ _ => pts_nil) (fun s H0 C0 cl fp => (⟨fun pins s' σ H Q I h => h s H0 C0 cl fp pins s' I⟩ : PE (blkX C.X scope s H0 C0 cl fp) kx (WEb C.X scope kx))) (fun s H0 C0 cl fp => (⟨fun pins s' σ H Q I h => h s H0 C0 cl fp pins s' I⟩ : PE (blkX C.X scope s H0 C0 cl fp) vx (WEb C.X scope vx))) hs) ?_
  refine h σ H _ r fun J ds ρ1 H1 k1 r1 w h1 => ?_
  obtain ⟨hno, hz, I, i0, hst, hd⟩ := h1
  intro q nq
  have hj : j < ρ1.length := (List.getElem?_eq_some_iff.mp hno).1
  have hjσ : j < σ.length := by rw [r1.len]; exact hj
  have new1 : New C.H0 C.dr ρ1 σ q := New.of_none r1 nq
  have ex1 : Ex H1 (L2.upd H1 q (.dK [])) := Ex.new nq
  refine ⟨fun i m H2 => i + m = ds.length ∧ KT H1 H2 ∧ ∃ acc vs ρ2, I i acc ρ2 ∧ acc.length ≤ i ∧ ρ2[j]? = some .no ∧ C.Rs ρ2 σ H2 ∧ New C.H0 C.dr ρ2 σ q ∧ H2 q = some (.dK vs) ∧ RpK C.X.K H2 vs acc,
    ⟨ds.length, Nat.zero_add _, ex1.kt, [], [], ρ1, i0, Nat.le_refl _, hno, r1.ex ex1, new1, upd_same, .nil⟩, fun i m H2 ⟨em, k2, acc, vs, ρ2, i2, al, no2, r2, n2, hq, hl⟩ => ?_⟩
  by_cases hi : i < ds.length
  · refine .inr ⟨w.go H2 i k2 hi, fun H3 => KT H1 H3 ∧ ∃ acc vs ρ2, I (i + 1) acc ρ2 ∧ acc.length ≤ i + 1 ∧ ρ2[j]? = some .no ∧ C.Rs ρ2 σ H3 ∧ New C.H0 C.dr ρ2 σ q ∧ H3 q = some (.dK vs) ∧ RpK C.X.K H3 vs acc, fun H3 z => ⟨m - 1, by omega, by omega, z⟩, fun x H3 hy => ?_⟩
    obtain ⟨ex, hx⟩ := w.yld H2 i x H3 k2 hy
    have hxd := hx _ (List.getElem?_eq_getElem hi)
    have r3 := r2.ex ex
    have hq3 := ex q _ hq
    have l2 : j < ρ2.length := (List.getElem?_eq_some_iff.mp no2).1
    have hw : wipe σ [j] = σ.set j none := rfl
    show wipe (((wipe σ [j]).set j (some x))) [j] = wipe σ [j] ∧ _
    refine ⟨by rw [hw]; show ((σ.set j none).set j (some x)).set j none = σ.set j none; rw [List.set_set, List.set_set], ?_⟩
    have rp := rs_pinD r3 n2 hq3
    have rs1 : Rs C.X.K (pin C.H0 q (.dK vs)) C.dr (ρ2.set j .no) (σ.set j none) H3 := rs_slot rp (List.length_set ..) fun i hi => List.getElem?_set_ne (fun z => hi z.symm)
    rw [set_no no2] at rs1
    have rs2 : Rs C.X.K (pin C.H0 q (.dK vs)) C.dr (ρ2.set j (.dat ds[i])) ((σ.set j none).set j (some x)) H3 := Rs.setD (C := ⟨C.X, pin C.H0 q (.dK vs), C.dr⟩) rs1 hxd
    have back : ∀ {ρ4 : Rho} {H4 : Hp}, Rs C.X.K (pin C.H0 q (.dK vs)) C.dr ρ4 ((σ.set j none).set j (some x)) H4 → C.Rs (ρ4.set j .no) σ H4 ∧ H4 q = some (.dK vs) ∧ New C.H0 C.dr (ρ4.set j .no) σ q ∧ (ρ4.set j .no)[j]? = some .no := fun {ρ4 H4} r4 => by
      have r5 : Rs C.X.K (pin C.H0 q (.dK vs)) C.dr (ρ4.set j .no) σ H4 := rs_slot r4 (by rw [List.length_set, List.length_set]) fun i hi => by rw [List.getElem?_set_ne (fun z => hi z.symm), List.getElem?_set_ne (fun z => hi z.symm)]
      obtain ⟨a1, a2, a3⟩ := rs_unpinD r5 n2.e n2.d
      refine ⟨a1, a2, a3, List.getElem?_set_self ?_⟩
      have := r4.len
      rw [List.length_set, List.length_set] at this
      omega
    unfold tYes
    refine iteT ?_
    refine fun s H0 C0 cl fp => ?_
    refine hst i ds[i] acc ρ2 (List.getElem?_eq_getElem hi) i2 _ s H0 C0 cl fp _ H3 _ rs2 fun v ev ρ4 H4 k4 r4 o4 h4 => ?_
    obtain ⟨k, rfl, h4⟩ := h4
    have hv := kD_rp o4
    refine fun s H0 C0 cl fp => ?_
    refine h4 s H0 C0 cl fp _ H4 _ r4 fun v5 ev5 ρ5 H5 k5 r5 o5 h5 => ?_
    obtain ⟨d', rfl, hI⟩ := h5
    have k34 := (k2.trans ex.kt).trans k4
    obtain ⟨a1, a2, a3, a4⟩ := back r5
    have hl5 : RpK C.X.K H5 vs acc := hl.kt ((ex.kt.trans k4).trans k5)
    have hpl := putD_len acc k d'
    exact ⟨vs, k, hv, a2, by rw [hl5.length]; omega, (k34.trans k5).trans (KT.dK a2), putD acc k d', _, ρ5.set j .no, hI, by omega, a4, rs_otherD a1 a3 a2, a3, upd_same, (hl5.put o5).kt (KT.dK a2)⟩
  · have ei : i = ds.length := by omega
    subst ei
    exact .inl ⟨w.stop H2 k2, g q vs acc ρ2 H2 (k1.trans k2) r2 n2 hq hl (hd acc ρ2 i2)⟩
/-- list(a dict) -/
theorem dl_listDD (hm : C.X.mg "list" = none) (h : DDi C ρ e fun kvs ρ1 => kl (kvs.map fun kv => kD kv.1) ρ1) (hg : Gl C.X "list" := by rfl) (hc : C.X.calm = true := by rfl)
    (he : starEach [e] C.X.env = (false, eval e C.X.env) :: starEach [] C.X.env := by rfl) (hpl : (backTo pos (starEach [] C.X.env)).any (·.1) = false := by rfl) :
    DL C ρ (.Call (.Name "list" p) [e] [] pos) kl := fun σ H Q r g => by
  refine WE.of (pe_callTy (call_list_dK hc) hg hm bt_list (pa_cons WE.pe pa_nil he) (by decide) (by decide) he hpl) ?_
  refine h σ H _ r fun q vs kvs ρ1 H1 k1 r1 n1 hq hl h1 => ?_
  refine ⟨q, vs, rfl, hq, fun t nt => ?_⟩
  have ex : Ex H1 (L2.upd H1 t (.lst (vs.map fun kv => kV kv.1))) := Ex.new nt
  exact g t _ _ ρ1 _ (k1.trans ex.kt) (r1.ex ex) (New.of_none r1 nt) upd_same hl.keys h1
end
end DW
namespace DW
open PySem L2 PyProof.Rows
section
variable {C : DC} {ρ ρ' : Rho} {σ : L2.St} {H H' : Hp} {e a b c : Expr} {es : List Expr} {pos : Pos} {k : EV → Rho → Prop} {nx : Rho → Prop} {rt : RV → Prop} {bk ct : Rho → Prop}
theorem kt_frzD {p : Addr} {vs : List (Key × V)} {o : Obj} (hp : H p = some (.dK vs)) : KT H (L2.upd H p (.frz o (.dK vs))) := ⟨fun b zs e => by
  rw [upd_ne (ne_of e hp (by intro z; cases z))]
  exact e, fun b o u e => by
  rw [upd_ne (ne_of e hp (by intro z; cases z))]
  exact e⟩
theorem Rs.frzD {p : Addr} {vs : List (Key × V)} {o : Obj} (r : C.Rs ρ σ H) (n : New C.H0 C.dr ρ σ p) (hp : H p = some (.dK vs)) : C.Rs ρ σ (L2.upd H p (.frz o (.dK vs))) := by
  have kt := kt_frzD (o := o) hp
  refine ⟨⟨fun b w h hd => ?_, r.fr.kt.trans kt, fun a h => ?_⟩, r.len, fun i sv h => ?_, r.sep⟩
  · rw [upd_ne (fun z => by rw [z, n.e] at h; cases h)]
    exact r.fr.ext b w h hd
  · obtain ⟨g, m, c, q, t⟩ := r.fr.drw a h
    exact ⟨g, m, c, by
      rw [upd_ne (fun z => n.d (by rw [h, z]))]
      exact q, t⟩
  · have hs := r.sl i sv h
    have hne : ∀ l, sv.isOwn = true → (σ[i]?.join) = some (.ref l) → l ≠ p := fun l ho e z => by
      subst z
      obtain ⟨w, hw⟩ := Rs.at r h
      rw [hw] at e
      exact n.s i sv h ho (by rw [hw, show w = some (.ref l) from e])
    cases sv with
    | no => exact True.intro
    | dat d =>
      obtain ⟨x, h1, h2⟩ := hs
      exact ⟨x, h1, h2.kt kt⟩
    | own ds =>
      obtain ⟨l, h1, h2, h3, ws, h4, h5⟩ := hs
      exact ⟨l, h1, h2, h3, ws, by
        rw [upd_ne (hne l rfl h1)]
        exact h4, h5.kt kt⟩
    | dic ds =>
      obtain ⟨l, h1, h2, h3, ws, h4, h5⟩ := hs
      exact ⟨l, h1, h2, h3, ws, by
        rw [upd_ne (hne l rfl h1)]
        exact h4, h5.kt kt⟩
    | drw => exact hs
    | scr ns =>
      obtain ⟨a, h1, h2⟩ := hs
      exact ⟨a, h1, h2.kt kt⟩
theorem de_dic0 (q : k (.dat (.dict [])) ρ) : DE C ρ (.Dict [] [] pos) k := fun σ H Q r g => by
  refine (WE.of (X := C.X) (Q := fun v H' => ∃ p, v = .ref p ∧ H p = none ∧ H' = upd H p (.dK [])) pe_dnewK ?_).thn ?_
  · exact fun p hp => ⟨p, rfl, hp, rfl⟩
  · rintro pins s v u H' I rel ⟨p, rfl, hp, rfl⟩
    have ex : Ex H (upd H p (.dK [])) := Ex.new hp
    have hq : upd H p (.dK []) p = some (.dK []) := upd_same
    obtain ⟨o, I'⟩ := freeze I hq (by intro xs z; cases z) (by intro o w z; cases z) (by intro ps z; cases z) (by intro a z; cases z)
    refine ⟨.ref p, _, I', rel, g _ (.dat (.dict [])) ρ _ (ex.kt.trans (kt_frzD hq)) (Rs.frzD (r.ex ex) (New.of_none r hp) hq) (Rp.dic upd_same) q⟩
theorem New.set {p : Addr} {i : Nat} {v : V} {d : PyData} (n : New C.H0 C.dr ρ σ p) : New C.H0 C.dr (ρ.set i (.dat d)) (σ.set i (some v)) p := by
  refine ⟨n.e, n.d, fun j sv h ho => ?_⟩
  by_cases e : i = j
  · subst e
    by_cases hl : i < ρ.length
    · rw [List.getElem?_set_self hl] at h
      cases h
      exact nomatch ho
    · rw [List.getElem?_eq_none (by rw [List.length_set]; omega)] at h
      exact nomatch h
  · rw [List.getElem?_set_ne e] at h
    rw [List.getElem?_set_ne e]
    exact n.s j sv h ho
variable {i j : Nat} {x y : Str} {px py pt : Pos} {kt k2 pt2}
theorem st_par (hi : C.X.N[i]? = some x) (hj : C.X.N[j]? = some y) (hN : C.X.N.Nodup) (h : DE C ρ a fun ev ρ1 => ∃ d, ev = .dat d ∧ DE C ρ1 b fun ev2 ρ2 => ∃ d', ev2 = .dat d' ∧ nx ((ρ2.set i (.dat d)).set j (.dat d')))
    (hij : i ≠ j := by decide) (hx : C.X.env.scope.names.lookup x = some .local := by rfl) (hy : C.X.env.scope.names.lookup y = some .local := by rfl) (hc : C.X.calm = true := by rfl)
    (hw : swappedStores [.Tuple [.Name x px, .Name y py] kt pt] (.Tuple [a, b] k2 pt2) C.X.env = pure (some [x, y]) := by rfl) (hs : swapsWithSole [.Tuple [.Name x px, .Name y py] kt pt] (.Tuple [a, b] k2 pt2) pos.line C.X.env = pure false := by rfl)
    (he : starEach [a, b] C.X.env = (false, eval a C.X.env) :: starEach [b] C.X.env := by rfl) (he2 : starEach [b] C.X.env = (false, eval b C.X.env) :: starEach [] C.X.env := by rfl) :
    DS C ρ (.Assign [.Tuple [.Name x px, .Name y py] kt pt] (.Tuple [a, b] k2 pt2) pos) nx rt bk ct := fun σ H E r ac => by
  refine WS.of (ps_par hc hN hi hj hij hx hy (pa_cons WE.pe (pa_cons WE.pe pa_nil he2) he) hw hs) ?_
  refine h σ H _ r fun v1 ev1 ρ1 H1 k1 r1 o1 h1 => ?_
  obtain ⟨d, rfl, h1⟩ := h1
  refine h1 σ H1 _ r1 fun v2 ev2 ρ2 H2 k2 r2 o2 h2 => ?_
  obtain ⟨d', rfl, h2⟩ := h2
  exact ⟨v1, v2, rfl, ac.nx _ _ H2 (k1.trans k2) (Rs.setD (Rs.setD r2 (Rp.kt k2 o1)) o2) h2⟩
theorem st_parL (hi : C.X.N[i]? = some x) (hj : C.X.N[j]? = some y) (hN : C.X.N.Nodup) (h : DE C ρ a fun ev ρ1 => ∃ d, ev = .dat d ∧ DL C ρ1 b fun ds ρ2 => nx ((ρ2.set i (.dat d)).set j (.own ds)))
    (hij : i ≠ j := by decide) (hx : C.X.env.scope.names.lookup x = some .local := by rfl) (hy : C.X.env.scope.names.lookup y = some .local := by rfl) (hc : C.X.calm = true := by rfl)
    (hw : swappedStores [.Tuple [.Name x px, .Name y py] kt pt] (.Tuple [a, b] k2 pt2) C.X.env = pure (some [x, y]) := by rfl) (hs : swapsWithSole [.Tuple [.Name x px, .Name y py] kt pt] (.Tuple [a, b] k2 pt2) pos.line C.X.env = pure false := by rfl)
    (he : starEach [a, b] C.X.env = (false, eval a C.X.env) :: starEach [b] C.X.env := by rfl) (he2 : starEach [b] C.X.env = (false, eval b C.X.env) :: starEach [] C.X.env := by rfl) :
    DS C ρ (.Assign [.Tuple [.Name x px, .Name y py] kt pt] (.Tuple [a, b] k2 pt2) pos) nx rt bk ct := fun σ H E r ac => by
  refine WS.of (ps_par hc hN hi hj hij hx hy (pa_cons WE.pe (pa_cons WE.pe pa_nil he2) he) hw hs) ?_
  refine h σ H _ r fun v1 ev1 ρ1 H1 k1 r1 o1 h1 => ?_
  obtain ⟨d, rfl, h1⟩ := h1
  refine h1 σ H1 _ r1 fun p vs ds ρ2 H2 k2 r2 n hp hl h2 => ?_
  exact ⟨v1, .ref p, rfl, ac.nx _ _ H2 (k1.trans k2) (Rs.setO (Rs.setD r2 (Rp.kt k2 o1)) n.set hp hl) h2⟩
theorem db_seq {st : Stmt} {sts : List Stmt} (M : Rho → Prop) (h : DS C ρ st M rt bk ct) (h2 : ∀ ρ1, M ρ1 → DB C ρ1 sts nx rt bk ct) : DB C ρ (st :: sts) nx rt bk ct :=
  db_cons fun σ H E r ac => h σ H E r ⟨fun ρ1 σ1 H1 k1 r1 q => ac.nx ρ1 σ1 H1 k1 r1 (h2 ρ1 q), ac.rt, ac.bk, ac.ct⟩
theorem dix_any {ds : List PyData} {i : Int} {kd : PyData → Prop} (h0 : 0 ≤ i) (h1 : i < ds.length) (h : ∀ d ∈ ds, kd d) : DIx C.X (.list ds) (.int i) kd := by
  obtain ⟨j, rfl⟩ := Int.eq_ofNat_of_zero_le h0
  have hj : j < ds.length := by omega
  exact dix_lst (atI_nat (List.getElem?_eq_getElem hj)) (h _ (List.getElem_mem hj))
end
end DW
namespace DW
open PySem L2 PyProof.Rows
/-- a display of constants -/
def litB : Nat → Expr → Bool
  | _, .Constant (.int _) _ _ => true
  | _, .Constant (.str _) _ _ => true
  | _, .Constant (.bool _) _ _ => true
  | _, .Constant .none _ _ => true
  | _, .UnaryOp .USub (.Constant (.int _) _ _) _ => true
  | _, .BinOp (.Constant (.int i) _ _) .Pow (.Constant (.int j) _ _) _ => decide (0 ≤ j ∧ j ≤ 1000 ∧ i.natAbs < 1000)
  | _, .Dict [] [] _ => true
  | n + 1, .Tuple es _ _ => decide (es.length ≤ 10000) && es.all (litB n)
  | n + 1, .List es _ => decide (es.length ≤ 10000) && es.all (litB n)
  | _, _ => false
/-- its datum -/
def litV : Nat → Expr → PyData
  | _, .Constant (.int i) _ _ => .int i
  | _, .Constant (.str x) _ _ => .str x
  | _, .Constant (.bool b) _ _ => .bool b
  | _, .Constant .none _ _ => .none
  | _, .UnaryOp .USub (.Constant (.int i) _ _) _ => .int (-i)
  | _, .BinOp (.Constant (.int i) _ _) .Pow (.Constant (.int j) _ _) _ => .int (i ^ j.toNat)
  | _, .Dict [] [] _ => .dict []
  | n + 1, .Tuple es _ _ => .tuple (es.map (litV n))
  | n + 1, .List es _ => .list (es.map (litV n))
  | _, _ => .none
theorem star_lit {n : Nat} {e : Expr} (h : litB n e = true) (es : List Expr) (env : Env) : starEach (e :: es) env = (false, eval e env) :: starEach es env := by
  cases e <;> first | rfl | (cases n <;> simp [litB] at h)
theorem dad_lit {C : DC} {f : Expr → Bool} {g : Expr → PyData} (hf : ∀ e, f e = true → ∀ ρ (k : EV → Rho → Prop), k (.dat (g e)) ρ → DE C ρ e k) (hs : ∀ e, f e = true → ∀ es, starEach (e :: es) C.X.env = (false, eval e C.X.env) :: starEach es C.X.env) :
    ∀ (es : List Expr), es.all f = true → ∀ ρ (kl : List PyData → Rho → Prop), kl (es.map g) ρ → DAd C ρ es kl
  | [], h, ρ, kl, q => dad_nil q
  | e :: es, h, ρ, kl, q => by
    rw [List.all_cons, Bool.and_eq_true] at h
    exact dad_cons (hf e h.1 ρ _ ⟨_, rfl, dad_lit hf hs es h.2 ρ _ q⟩) (hs e h.1 es)
theorem de_lit {C : DC} {k : EV → Rho → Prop} : ∀ {n : Nat} {e : Expr} {ρ : Rho}, litB n e = true → k (.dat (litV n e)) ρ → DE C ρ e k := by
  intro n
  induction n generalizing k with
  | zero =>
    intro e ρ h q
    unfold litB at h
    split at h
    · exact de_int q
    · exact de_str q
    · exact de_bl q
    · exact de_non q
    · exact de_neg q
    · have hc := of_decide_eq_true h
      exact de_op (de_int (de_int ⟨_, _, .dat, .dat, do_pow q ⟨hc.1, by omega, by omega⟩⟩))
    · exact de_dic0 q
    · first | contradiction | (exfalso; omega)
    · first | contradiction | (exfalso; omega)
    · exact nomatch h
  | succ n ih =>
    intro e ρ h q
    unfold litB at h
    split at h
    · exact de_int q
    · exact de_str q
    · exact de_bl q
    · exact de_non q
    · exact de_neg q
    · have hc := of_decide_eq_true h
      exact de_op (de_int (de_int ⟨_, _, .dat, .dat, do_pow q ⟨hc.1, by omega, by omega⟩⟩))
    · exact de_dic0 q
    · rename_i e1
      cases e1
      rw [Bool.and_eq_true] at h
      have hl := of_decide_eq_true h.1
      exact de_tuple (dad_lit (fun e h ρ k q => ih h q) (fun e h es => star_lit h es _) _ h.2 ρ _ q) (by unfold sizeLine; omega)
    · rename_i e1
      cases e1
      rw [Bool.and_eq_true] at h
      have hl := of_decide_eq_true h.1
      exact DL.de (dl_list (dad_lit (fun e h ρ k q => ih h q) (fun e h es => star_lit h es _) _ h.2 ρ _ q) (by unfold sizeLine; omega))
    · exact nomatch h
theorem de_litE {C : DC} {k : EV → Rho → Prop} {n : Nat} {e : Expr} {ρ : Rho} {d : PyData} (h : litB n e = true) (hd : litV n e = d) (q : k (.dat d) ρ) : DE C ρ e k := de_lit h (by rw [hd]; exact q)
end DW
namespace DW
open PySem L2 PyProof.Rows
section
variable {P : Program} {w : World} {K : PySem.W.Frag} {mg : Str → Option Value} {base : Heap}
theorem Fr.any {H H' : Hp} {dr : Option Addr} (hd : ∀ a, dr = some a → Drawn H a) (f : Fr H none H') : Fr H dr H' :=
  ⟨fun b o h _ => f.ext b o h (fun z => nomatch z), f.kt, fun a ha => by
    obtain ⟨g, m, c, q, t⟩ := hd a ha
    exact ⟨g, m, c, f.ext a _ q (fun z => nomatch z), t⟩⟩
theorem RvOk.any {H H' : Hp} {dr : Option Addr} {v : V} {rv : RV} (hd : ∀ a, dr = some a → Drawn H a) (h : RvOk K H none H' v rv) : RvOk K H dr H' v rv := by
  cases rv with
  | dat d => exact h
  | lst ds =>
    obtain ⟨p, vs, a1, a2, _, a4, a5⟩ := h
    have a3 : dr ≠ some p := fun z => by
      obtain ⟨g, m, c, q, _⟩ := hd p z
      rw [a2] at q
      cases q
    exact ⟨p, vs, a1, a2, a3, a4, a5⟩
theorem ArgsOk.scr1 {H : Hp} {dr : Option Addr} {vs : List V} {ns : List Int} (h : ArgsOk K H dr vs [.scr ns]) : ArgsOk K H none vs [.scr ns] := by
  cases h with
  | scr h t => cases t; exact .scr h .nil
/-- the law's own def -/
theorem law_fn {x xs : Str} {st : Stmt} {N : List Str} {k : Nat} (F : Df K mg x st [xs]) (S : FnScope N [xs] (defScope st))
    (hb : ∀ (base : Heap) (f : Addr) (cdv : Value) (A : Around) (outer : List Env) (s : Shared) (H : Hp) (E : XK) (ns : List Int), Room k (A.deeper (PyProof.Rows.envOfC x (defScope st) s.heap.objs.size f cdv)) → A.guards = some [] → ns.length ≤ 63 →
      DB ⟨fcx P w K mg base N x st f cdv A outer s H E, H, none⟩ (.scr ns :: List.replicate (N.length - [xs].length) .no) (defBody st) (fun _ => False) (fun rv => rv = .dat (.bool true)) (fun _ => False) (fun _ => False)) :
    ∃ (fa : Addr) (fd : FuncData), mg x = some (.ref fa) ∧ Binds K fd [xs] [] ∧ ∀ base : Heap, K.In base → base.Ns mainGlobals mg → FnG P w K mg base (k + 1) fa fd [xs] (spOf K fsLaw) := by
  obtain ⟨f, fd, F, h1, h2⟩ := F.ex
  refine ⟨f, fd, h1, h2, fun base _ _ => ?_⟩
  have hN : 1 ≤ N.length := by
    have := congrArg List.length S.pre
    rw [List.length_take] at this
    simp at this
    omega
  refine fnG_of F S (fun vs H Q E h => ?_) (fun cdv A outer s H vs Q E hr hgd h => ?_)
  · obtain ⟨dr, avs, R, _, ha, ⟨ns, rfl, _⟩, _⟩ := h
    rw [ha.length]
    rfl
  · obtain ⟨dr, avs, R, hd, ha, ⟨ns, rfl, hl, hR⟩, hq⟩ := h
    refine hb base f cdv A outer s H E ns hr hgd hl (L2.start N vs) H _ (rs_start (ps := [xs]) (by intro a z; cases z) ha.scr1 rfl hN) ⟨fun ρ σ H' _ r q => q.elim, fun v rv H' _ fr rv' q => ?_, fun _ _ _ _ _ z => z.elim, fun _ _ _ _ _ z => z.elim⟩
    subst q
    exact hq v _ H' (fr.any hd) (RvOk.any (dr := dr) hd rv') hR
end
section
variable {C : DC} {ρ : Rho} {st : Stmt} {nx : Rho → Prop} {rt : RV → Prop} {bk ct : Rho → Prop}
theorem ds_mid (M : Rho → Prop) (h : DS C ρ st M rt bk ct) (h2 : ∀ ρ1, M ρ1 → nx ρ1) : DS C ρ st nx rt bk ct := fun σ H E r ac =>
  h σ H E r ⟨fun ρ1 σ1 H1 k1 r1 q => ac.nx ρ1 σ1 H1 k1 r1 (h2 ρ1 q), ac.rt, ac.bk, ac.ct⟩
end
end DW
/-! NV: an evaluator over plain data for the part of Python that the program uses. -/
namespace NV
open PySem
universe u

/-- an exception of a class of the program -/
structure Exc where
  cls : Str
  fs : List (Str × PyData)
/-- what a slot holds: nothing known; data that stays; a list or a dict that is changed in place, the def's own (false) or lent by the caller (true) -/
inductive SV where
  | no
  | dat (d : PyData)
  | own (b : Bool) (ds : List PyData)
  | dic (b : Bool) (kvs : List (PyData × PyData))
  | exn (x : Exc)
  | scr (ns : List Int)
abbrev Rho := List SV
/-- a value: data, a new list, a new dict, or the very thing in slot i -/
inductive NV where
  | dat (d : PyData)
  | lst (ds : List PyData)
  | dic (kvs : List (PyData × PyData))
  | ali (i : Nat)
inductive R (α : Type) where
  | ok (a : α) (ρ : Rho)
  | exc (x : Exc) (ρ : Rho)
  | bad
/-- a mark that keeps simp out of the thing before it -/
inductive Tag {α : Sort u} (a : α) : Type where
  | t
def R.bind {α β : Type} (m : R α) (k : α → Rho → R β) (_ : Tag k := .t) : R β :=
  match m with
  | .ok a ρ => k a ρ
  | .exc x ρ => .exc x ρ
  | .bad => .bad
def W {α : Type} (m : R α) (Q : α → Rho → Prop) (E : Exc → Rho → Prop) (_ : Tag Q := .t) (_ : Tag E := .t) : Prop :=
  match m with
  | .ok a ρ => Q a ρ
  | .exc x ρ => E x ρ
  | .bad => False
/-- an open choice -/
def R.cond {α : Type} (b : Bool) (m n : R α) (_ : Tag m := .t) (_ : Tag n := .t) : R α := match b with | true => m | false => n
/-- a condition that must hold -/
def R.chk {α : Type} (b : Bool) (m : R α) (_ : Tag m := .t) : R α := match b with | true => m | false => .bad
/-- nothing may be raised here -/
def R.nox {α : Type} (m : R α) : R α := match m with | .ok a ρ => .ok a ρ | .exc _ _ => .bad | .bad => .bad
def R.opt {α β : Type} (o : Option α) (k : α → R β) (_ : Tag k := .t) : R β := match o with | some a => k a | none => .bad

/-! ### the text, positions left out -/
inductive Tg where
  | nm (i : Nat)
  | tup (is : List Nat)
inductive Bi where
  | len | abs | int | min | max | sum | all | any | tuple | list | dict | repr
inductive It where
  | range | zip | enum
inductive Ty where
  | int | bool | str | tuple | list
inductive Me where
  | get | append | extend | pop | setdefault
inductive X where
  | loc (i : Nat)
  | cst (d : PyData)
  | bin (op : Operator) (a b : X)
  | cmp (op : CmpOp) (a b : X)
  | chain (o1 o2 : CmpOp) (a b c : X)
  | neg (a : X)
  | not (a : X)
  | and (a b : X)
  | or (a b : X)
  | ite (c a b : X)
  | tup (es : List X)
  | lst (es : List X)
  | tups (es : List X)
  | lsts (es : List X)
  | star (a : X)
  | dct (ks vs : List X)
  | idx (a b : X)
  | slc (a : X) (lo hi : Option X)
  | rev (a : X) (hi : Option X)
  | call (f : Str) (bs : List Bool) (es : List X)
  | bi (f : Bi) (es : List X)
  | it (f : It) (es : List X)
  | isi (a : X) (ts : List Ty)
  | isx (i : Nat) (cs : List Str)
  | mth (o : X) (m : Me) (es : List X)
  | atr (i : Nat) (f : Str)
  | comp (elt : X) (t : Tg) (it : X) (c : Option X)
  | comp2 (elt : X) (t : Tg) (it : X) (t2 : Tg) (it2 : X) (c : Option X)
  | dcomp (k v : X) (t : Tg) (it : X)
inductive S where
  | asg (i : Nat) (x : X)
  | unp (is : List Nat) (x : X)
  | par (is : List Nat) (xs : List X)
  | put (i : Nat) (k v : X)
  | expr (x : X)
  | ret (x : X)
  | ife (c : X) (a b : List S)
  | whl (c : X) (a : List S)
  | for_ (t : Tg) (it : X) (a : List S)
  | pass
  | brk
  | cnt
  | raise (c : Str) (es : List X)
  | try_ (a : List S) (c : Str) (i : Option Nat) (b : List S)
/-- a def: its parameters, those that are lent, all its names, its body -/
structure Fn where
  np : Nat
  nl : Nat
  body : List S
/-- the class's fields by its __init__, its bases from itself on -/
structure Cls where
  fs : List Str
  up : List Str
structure Pg where
  fns : List (Str × Fn)
  cst : List (Str × PyData)
  cls : List (Str × Cls)

/-! ### reading -/
def SV.data : SV → Option PyData
  | .dat d => some d
  | .own _ ds => some (.list ds)
  | .dic _ kvs => some (.dict kvs)
  | _ => none
/-- what can be read, however long other things take -/
def NV.data (ρ : Rho) : NV → Option PyData
  | .dat d => some d
  | .lst ds => some (.list ds)
  | .dic _ => none
  | .ali i => (ρ[i]?).bind SV.data
/-- what can be read at once -/
def SV.data1 : SV → Option PyData
  | .scr ns => some (.list (ns.map .int))
  | s => s.data
def NV.data1 (ρ : Rho) : NV → Option PyData
  | .dat d => some d
  | .lst ds => some (.list ds)
  | .dic kvs => some (.dict kvs)
  | .ali i => (ρ[i]?).bind SV.data1
/-- what can be shown -/
def NV.dataR (ρ : Rho) : NV → Option PyData
  | .dat d => some d
  | .lst ds => some (.list ds)
  | .dic _ => none
  | .ali i =>
    match ρ[i]? with
    | some (.own _ ds) => some (.list ds)
    | _ => none
/-- new things are data from here on -/
def NV.fz : NV → NV
  | .lst ds => .dat (.list ds)
  | v => v
/-- data, not a slot's thing -/
def NV.dat? : NV → Option PyData
  | .dat d => some d
  | .lst ds => some (.list ds)
  | _ => none
/-- it gets out: data from here on -/
def esc (v : NV) (ρ : Rho) : R PyData :=
  match v with
  | .dat d => .ok d ρ
  | .lst ds => .ok (.list ds) ρ
  | .dic kvs =>
    match kvs with
    | [] => .ok (.dict []) ρ
    | _ => .bad
  | .ali i =>
    match ρ[i]? with
    | some (.own b ds) => R.chk (!b) (.ok (.list ds) (ρ.set i (.dat (.list ds))))
    | _ => .bad
def isBor : Option SV → Bool
  | some (.own true _) => true
  | some (.dic true _) => true
  | some _ => false
  | none => true
/-- a slot takes a value -/
def sto (i : Nat) (v : NV) (ρ : Rho) : R Unit :=
  match v with
  | .dat d => R.chk (!isBor ρ[i]?) (.ok () (ρ.set i (.dat d)))
  | .lst ds => R.chk (!isBor ρ[i]?) (.ok () (ρ.set i (.own false ds)))
  | .dic kvs => R.chk (!isBor ρ[i]?) (.ok () (ρ.set i (.dic false kvs)))
  | .ali j => R.bind (esc (.ali j) ρ) fun d ρ => R.chk (!isBor ρ[i]?) (.ok () (ρ.set i (.dat d)))
/-- a target takes data -/
def stos : List Nat → List PyData → Rho → R Unit
  | [], [], ρ => .ok () ρ
  | i :: is, d :: ds, ρ => R.chk (!isBor ρ[i]?) (stos is ds (ρ.set i (.dat d)))
  | _, _, _ => .bad
def items : PyData → Option (List PyData)
  | .tuple ds => some ds
  | .list ds => some ds
  | _ => none
def tgs (t : Tg) (d : PyData) (ρ : Rho) : R Unit :=
  match t with
  | .nm i => R.chk (!isBor ρ[i]?) (.ok () (ρ.set i (.dat d)))
  | .tup is =>
    match d with
    | .tuple ds => stos is ds ρ
    | _ => .bad
def Tg.slots : Tg → List Nat
  | .nm i => [i]
  | .tup is => is
def unset (is : List Nat) (ρ : Rho) : Rho := is.foldl (fun ρ i => ρ.set i .no) ρ
def allNo (is : List Nat) (ρ : Rho) : Bool := is.all fun i => match ρ[i]? with | some .no => true | _ => false
end NV
namespace NV
open PySem
/-! ### operations over data -/
def cMul (i j : Int) : Bool := decide (-(2 ^ 64) < i ∧ i < 2 ^ 64) || decide (-(2 ^ 64) < j ∧ j < 2 ^ 64)
def grd (b : Bool) (v : NV) : Option NV := if b = true then some v else none
def bopF (op : Operator) (x y : PyData) : Option NV :=
  match op with
  | .Add =>
    match x, y with
    | .int i, .int j => some (.dat (.int (i + j)))
    | .str a, .str b => grd (decide (a.length + b.length ≤ sizeLine)) (.dat (.str (a ++ b)))
    | .tuple a, .tuple b => grd (decide (a.length + b.length ≤ sizeLine)) (.dat (.tuple (a ++ b)))
    | .list a, .list b => grd (decide (a.length + b.length ≤ sizeLine)) (.lst (a ++ b))
    | _, _ => none
  | .Sub =>
    match x, y with
    | .int i, .int j => some (.dat (.int (i - j)))
    | _, _ => none
  | .Mult =>
    match x, y with
    | .int i, .int j => grd (cMul i j) (.dat (.int (i * j)))
    | _, _ => none
  | .FloorDiv =>
    match x, y with
    | .int i, .int j => grd (decide (0 < j ∧ j < 1073741824)) (.dat (.int (i / j)))
    | _, _ => none
  | .Mod =>
    match x, y with
    | .int i, .int j => grd (decide (0 < j)) (.dat (.int (i % j)))
    | _, _ => none
  | .Pow =>
    match x, y with
    | .int i, .int j => grd (decide (0 ≤ j ∧ j ≤ 1000000 ∧ i.natAbs < 2 ^ 64)) (.dat (.int (i ^ j.toNat)))
    | _, _ => none
  | _ => none
def notDict : PyData → Bool
  | .dict _ => false
  | _ => true
def eqOk (x y : PyData) : Bool := SeqAt.shaped x && SeqAt.shaped y && notDict x && notDict y
def eqF (x y : PyData) : Option Bool :=
  match x, y with
  | .str a, .str b => some (decide (a = b))
  | .int i, .int j => some (decide (i = j))
  | .bool a, .bool b => some (decide (a = b))
  | .list a, .list [] => some a.isEmpty
  | .tuple a, .tuple [] => some a.isEmpty
  | x, y => if eqOk x y = true then some (PyData.eqv x y) else none
def neF (x y : PyData) : Option Bool :=
  match x, y with
  | .str a, .str b => some (!decide (a = b))
  | .int i, .int j => some (!decide (i = j))
  | .bool a, .bool b => some (!decide (a = b))
  | .list a, .list [] => some (!a.isEmpty)
  | x, y => if eqOk x y = true then some (!PyData.eqv x y) else none
def isN : PyData → Bool
  | .none => true
  | _ => false
def keyEq : PyData → PyData → Bool
  | .int i, .int j => decide (i = j)
  | .str i, .str j => decide (i = j)
  | _, _ => false
def isKey : PyData → Bool
  | .int _ => true
  | .str _ => true
  | _ => false
def dget (kvs : List (PyData × PyData)) (k : PyData) : Option PyData := (kvs.find? fun p => keyEq p.1 k).map (·.2)
def dput (kvs : List (PyData × PyData)) (k v : PyData) : List (PyData × PyData) :=
  if (kvs.any fun p => keyEq p.1 k) = true then kvs.map (fun p => if keyEq p.1 k = true then (p.1, v) else p) else kvs ++ [(k, v)]
def inF (x y : PyData) : Option Bool :=
  match y with
  | .str z =>
    match x with
    | .str ⟨⟨[c]⟩⟩ => some (decide (c ∈ z.cps.toList))
    | _ => none
  | .list ds => if eqOk x (.list ds) = true then some (ds.any fun z => PyData.eqv z x) else none
  | .tuple ds => if eqOk x (.tuple ds) = true then some (ds.any fun z => PyData.eqv z x) else none
  | .dict kvs => if isKey x = true then some (dget kvs x).isSome else none
  | _ => none
def copF (op : CmpOp) (x y : PyData) : Option Bool :=
  match op with
  | .Lt =>
    match x, y with
    | .int i, .int j => some (decide (i < j))
    | _, _ => none
  | .LtE =>
    match x, y with
    | .int i, .int j => some (decide (i ≤ j))
    | _, _ => none
  | .Gt =>
    match x, y with
    | .int i, .int j => some (decide (j < i))
    | _, _ => none
  | .GtE =>
    match x, y with
    | .int i, .int j => some (decide (j ≤ i))
    | _, _ => none
  | .Eq => eqF x y
  | .NotEq => neF x y
  | .Is => if isN y = true then some (isN x) else none
  | .IsNot => if isN y = true then some (!isN x) else none
  | .In => inF x y
  | .NotIn => (inF x y).map (!·)
/-- the item at i, from the end if below 0 -/
def atF (xs : List PyData) (i : Int) : Option PyData := L2.atI xs i
def idxF (x y : PyData) : Option PyData :=
  match x, y with
  | .tuple ds, .int i => atF ds i
  | .list ds, .int i => atF ds i
  | .str z, .int i => if z.length ≤ sizeLine then (L2.atI z.cps.toList i).map fun c => .str ⟨#[c]⟩ else none
  | .dict kvs, k => if isKey k = true then dget kvs k else none
  | _, _ => none
def slcF (x : PyData) (lo hi : Option Int) : Option NV :=
  match x with
  | .tuple ds => some (.dat (.tuple (DW.cutD ds lo hi)))
  | .list ds => some (.lst (DW.cutD ds lo hi))
  | .str z => if z.length ≤ sizeLine then some (.dat (.str (L2.cutS z lo hi))) else none
  | _ => none
def revF (x : PyData) (hi : Option Int) : Option NV :=
  if hi = none ∨ hi = some 0 then
    match x with
    | .tuple ds => some (.dat (.tuple (DW.revCut ds hi)))
    | _ => none
  else none
def tyIs (t : Ty) (d : PyData) : Bool :=
  match t with
  | .int => DW.isInt d
  | .bool => DW.isBool d
  | .str => DW.isStr d
  | .tuple => DW.isTup d
  | .list => DW.isLst d
def asInts : List PyData → Option (List Int)
  | [] => some []
  | .int i :: ds => (asInts ds).map (i :: ·)
  | _ :: _ => none
def asBools : List PyData → Option (List Bool)
  | [] => some []
  | .bool i :: ds => (asBools ds).map (i :: ·)
  | _ :: _ => none
def asPairs : List PyData → Option (List (PyData × PyData))
  | [] => some []
  | .tuple [k, v] :: ds => if isKey k = true then (asPairs ds).map ((k, v) :: ·) else none
  | _ :: _ => none
def maxI : List Int → Option Int
  | [] => none
  | i :: r => some (r.foldl (fun m n => if m < n then n else m) i)
def dictOf (ps : List (PyData × PyData)) : List (PyData × PyData) := ps.foldl (fun d p => dput d p.1 p.2) []
def iterF : PyData → Option (List PyData)
  | .tuple ds => some ds
  | .list ds => some ds
  | .str x => some (x.cps.toList.map fun c => .str ⟨#[c]⟩)
  | _ => none
def small (i : Int) : Bool := decide (-(2 ^ 62) ≤ i ∧ i < 2 ^ 62)
def pairs : List PyData → List PyData → List PyData
  | a :: as, b :: bs => .tuple [a, b] :: pairs as bs
  | _, _ => []
def numbered (i : Int) : List PyData → List PyData
  | [] => []
  | d :: ds => .tuple [.int i, d] :: numbered (i + 1) ds
/-- what is only walked: range, zip, enumerate -/
def itF (f : It) (ds : List PyData) : Option (List PyData) :=
  match f with
  | .range =>
    match ds with
    | [.int n] => if small n = true then some (DW.upTo 0 n.toNat) else none
    | [.int a, .int b] => if (small a && small b) = true then some (DW.upTo a (b - a).toNat) else none
    | [.int a, .int b, .int c] => if (small a && small b && decide (c = -1)) = true then some (DW.downFrom a (a - b).toNat) else none
    | _ => none
  | .zip =>
    match ds with
    | [a, b] =>
      match a, b with
      | .tuple as, .tuple bs => some (pairs as bs)
      | .list as, .list bs => some (pairs as bs)
      | _, _ => none
    | _ => none
  | .enum =>
    match ds with
    | [a] => (items a).map (numbered 0)
    | _ => none
def biF (f : Bi) (ds : List PyData) : Option NV :=
  match f with
  | .len =>
    match ds with
    | [.tuple xs] => some (.dat (.int xs.length))
    | [.list xs] => some (.dat (.int xs.length))
    | [.str z] => grd (decide (z.length ≤ sizeLine)) (.dat (.int z.length))
    | _ => none
  | .abs =>
    match ds with
    | [.int i] => some (.dat (.int (if i < 0 then -i else i)))
    | _ => none
  | .int =>
    match ds with
    | [.bool b] => some (.dat (.int (if b then 1 else 0)))
    | _ => none
  | .min =>
    match ds with
    | [.int i, .int j] => some (.dat (.int (if j < i then j else i)))
    | _ => none
  | .max =>
    match ds with
    | [.int i, .int j] => some (.dat (.int (if j > i then j else i)))
    | [.list xs] => (asInts xs).bind fun ns => (maxI ns).map fun m => .dat (.int m)
    | _ => none
  | .sum =>
    match ds with
    | [.list xs] => (asInts xs).map fun ns => .dat (.int ns.sum)
    | _ => none
  | .all =>
    match ds with
    | [.list xs] => (asBools xs).map fun ns => .dat (.bool (ns.all id))
    | _ => none
  | .any =>
    match ds with
    | [.list xs] => (asBools xs).map fun ns => .dat (.bool (ns.any id))
    | _ => none
  | .tuple =>
    match ds with
    | [.tuple xs] => some (.dat (.tuple xs))
    | [.list xs] => some (.dat (.tuple xs))
    | _ => none
  | .list =>
    match ds with
    | [.tuple xs] => some (.lst xs)
    | [.list xs] => some (.lst xs)
    | [.dict kvs] => some (.lst (kvs.map (·.1)))
    | _ => none
  | .dict =>
    match ds with
    | [.list xs] => none
    | _ => none
  | .repr =>
    match ds with
    | [d] => grd (d.showable && (!d.hasDict || DW.noList d) && decide (d.shown.length ≤ sizeLine) && decide (d.depth ≤ 150)) (.dat (.str d.shown))
    | _ => none
/-- a method of a thing that stays as it is -/
def mthF (m : Me) (d : PyData) (ds : List PyData) : Option NV :=
  match m with
  | .get =>
    match d, ds with
    | .dict kvs, [k] => grd (isKey k) (.dat ((dget kvs k).getD .none))
    | .dict kvs, [k, z] => grd (isKey k) (.dat ((dget kvs k).getD z))
    | _, _ => none
  | _ => none
/-- a method of a list or dict that is changed: what it gives, what it is then -/
def mutF (m : Me) (s : SV) (ds : List PyData) : Option (PyData × SV) :=
  match m with
  | .append =>
    match s, ds with
    | .own b xs, [d] => if xs.length < sizeLine then some (.none, .own b (xs ++ [d])) else none
    | _, _ => none
  | .extend =>
    match s, ds with
    | .own b xs, [.list ys] => if xs.length + ys.length ≤ sizeLine then some (.none, .own b (xs ++ ys)) else none
    | .own b xs, [.tuple ys] => if xs.length + ys.length ≤ sizeLine then some (.none, .own b (xs ++ ys)) else none
    | _, _ => none
  | .pop =>
    match s, ds with
    | .own b xs, [] => xs.getLast?.map fun d => (d, .own b xs.dropLast)
    | _, _ => none
  | .setdefault =>
    match s, ds with
    | .dic b kvs, [k, v] =>
        if (isKey k && decide (kvs.length < sizeLine)) = true then
          match dget kvs k with
          | some d => some (d, .dic b kvs)
          | none => some (v, .dic b (dput kvs k v))
        else none
    | _, _ => none
  | _ => none
/-- a[k] = v -/
def putF (s : SV) (k v : PyData) : Option SV :=
  match s with
  | .own b xs =>
    match k with
    | .int i => (L2.ixN xs.length i).map fun j => .own b (xs.set j v)
    | _ => none
  | .dic b kvs => if (isKey k && decide (kvs.length < sizeLine)) = true then some (.dic b (dput kvs k v)) else none
  | _ => none
end NV
namespace NV
open PySem
def NV.dataS (ρ : Rho) : NV → Option PyData
  | .ali i => (ρ[i]?).bind SV.data1
  | v => v.data ρ
def NV.dataB (v : NV) (f : Bi) (ρ : Rho) : Option PyData :=
  match f with
  | .repr => v.dataR ρ
  | _ => v.data1 ρ
/-- what a call is worth: the lent things behind it stand in the place of the slots -/
abbrev Calls := Str → List SV → R NV
/-- an argument as its parameter -/
def avOf (ρ : Rho) : NV → SV
  | .dat d => .dat d
  | .lst ds => .own true ds
  | .dic kvs => .dic true kvs
  | .ali i =>
    match ρ[i]? with
    | some (.own _ ds) => .own true ds
    | some (.dic _ kvs) => .dic true kvs
    | some (.scr ns) => .scr ns
    | _ => .no
def flag : Option SV → Bool
  | some (.own b _) => b
  | some (.dic b _) => b
  | _ => false
def wb (ρ : Rho) (i : Nat) (s : SV) : Rho :=
  match s with
  | .own b ds =>
    match b with
    | true => ρ.set i (.own (flag ρ[i]?) ds)
    | false => ρ
  | .dic b kvs =>
    match b with
    | true => ρ.set i (.dic (flag ρ[i]?) kvs)
    | false => ρ
  | _ => ρ
def wb1 (v : NV) (s : SV) (ρ : Rho) : Rho :=
  match v with
  | .ali i => wb ρ i s
  | _ => ρ
/-- behind a call -/
def wback : List NV → List SV → Rho → Rho
  | v :: vs, s :: ss, ρ => wback vs ss (wb1 v s ρ)
  | _, _, ρ => ρ
def alis : List NV → List Nat
  | [] => []
  | .ali i :: vs => i :: alis vs
  | _ :: vs => alis vs
def nodupB : List Nat → Bool
  | [] => true
  | i :: is => !is.contains i && nodupB is
def isAv : SV → Bool
  | .no => false
  | .exn _ => false
  | _ => true
def callR (Φ : Calls) (f : Str) (vs : List NV) (ρ : Rho) : R NV :=
  R.chk (nodupB (alis vs) && (vs.map (avOf ρ)).all isAv) (match Φ f (vs.map (avOf ρ)) with
  | .ok v fin => .ok v (wback vs fin ρ)
  | .exc x fin => .exc x (wback vs fin ρ)
  | .bad => .bad)
/-- the passes of a comprehension -/
def compL (elt : Rho → R PyData) (c : Rho → R Bool) (t : Tg) (te : Tag elt := .t) (tc : Tag c := .t) : List PyData → List PyData → Rho → R (List PyData)
  | [], acc, ρ => .ok acc ρ
  | d :: ds, acc, ρ => R.bind (tgs t d ρ) fun _ ρ => R.bind (R.nox (c ρ)) fun b ρ => R.cond b
      (R.bind (R.nox (elt ρ)) fun e ρ => compL elt c t te tc ds (acc ++ [e]) (unset t.slots ρ)) (compL elt c t te tc ds acc (unset t.slots ρ))
/-- of one with two walks -/
def compL2 (inner : List PyData → Rho → R (List PyData)) (t : Tg) (ti : Tag inner := .t) : List PyData → List PyData → Rho → R (List PyData)
  | [], acc, ρ => .ok acc ρ
  | d :: ds, acc, ρ => R.bind (tgs t d ρ) fun _ ρ => R.bind (R.nox (inner acc ρ)) fun acc ρ => compL2 inner t ti ds acc (unset t.slots ρ)
def compD (k v : Rho → R PyData) (t : Tg) (tk : Tag k := .t) (tv : Tag v := .t) : List PyData → List (PyData × PyData) → Rho → R (List (PyData × PyData))
  | [], acc, ρ => .ok acc ρ
  | d :: ds, acc, ρ => R.bind (tgs t d ρ) fun _ ρ => R.bind (R.nox (k ρ)) fun a ρ => R.bind (R.nox (v ρ)) fun b ρ => R.chk (isKey a) (compD k v t tk tv ds (dput acc a b) (unset t.slots ρ))
def asBool (v : NV) (ρ : Rho) : R Bool :=
  match v with
  | .dat (.bool b) => .ok b ρ
  | _ => .bad
def asOptInt (d : PyData) (ρ : Rho) : R (Option Int) :=
  match d with
  | .int i => .ok (some i) ρ
  | _ => .bad
def isiR (v : NV) (ts : List Ty) (ρ : Rho) : R NV := R.opt (v.data ρ) fun d => .ok (.dat (.bool (ts.any (tyIs · d)))) ρ
def isxR (cls : List (Str × Cls)) (i : Nat) (cs : List Str) (ρ : Rho) : R NV :=
  match ρ[i]? with
  | some (.exn x) => R.opt (cls.lookup x.cls) fun c => .ok (.dat (.bool (cs.any fun t => c.up.contains t))) ρ
  | _ => .bad
def mutR (i : Nat) (m : Me) (ds : List PyData) (ρ : Rho) : R NV :=
  R.opt ρ[i]? fun s => R.opt (mutF m s ds) fun p => .ok (.dat p.1) (ρ.set i p.2)
def isMut : Me → Bool
  | .get => false
  | _ => true
def isLstS : Option SV → Bool
  | some (.own _ _) => true
  | _ => false
def isDicS : Option SV → Bool
  | some (.dic _ _) => true
  | _ => false
/-- may it be changed so? -/
def mutOk (v : NV) (m : Me) (ρ : Rho) : Bool :=
  match m with
  | .get => true
  | .setdefault =>
    match v with
    | .ali i => isDicS ρ[i]?
    | _ => false
  | _ =>
    match v with
    | .ali i => isLstS ρ[i]?
    | _ => false
def mthR (v : NV) (m : Me) (ds : List PyData) (ρ : Rho) : R NV :=
  match isMut m with
  | true =>
    match v with
    | .ali i => mutR i m ds ρ
    | _ => .bad
  | false => R.opt (v.data ρ) fun d => R.opt (mthF m d ds) fun w => .ok w ρ
def atrR (cls : List (Str × Cls)) (i : Nat) (f : Str) (ρ : Rho) : R NV :=
  match ρ[i]? with
  | some (.exn x) => R.opt (cls.lookup x.cls) fun cl => R.chk (cl.fs.contains f) (R.opt (x.fs.lookup f) fun d => .ok (.dat d) ρ)
  | _ => .bad
def dctF : List PyData → List PyData → List (PyData × PyData) → Option (List (PyData × PyData))
  | [], [], acc => some acc
  | k :: ks, v :: vs, acc => if isKey k = true then dctF ks vs (dput acc k v) else none
  | _, _, _ => none
/-- an argument that others follow -/
def fzR (v : NV) (ρ : Rho) : R NV :=
  match v with
  | .dat d => .ok (.dat d) ρ
  | .lst ds => .ok (.dat (.list ds)) ρ
  | .dic _ => .bad
  | .ali i => .ok (.ali i) ρ
section
variable (G : Pg) (Φ : Calls)
mutual
def evN : X → Rho → R NV
  | .loc i, ρ =>
    match ρ[i]? with
    | some (.dat d) => .ok (.dat d) ρ
    | some .no => .bad
    | some _ => .ok (.ali i) ρ
    | none => .bad
  | .cst d, ρ => .ok (.dat d) ρ
  | .bin op a b, ρ => R.bind (evN a ρ) fun x ρ => R.bind (evN b ρ) fun y ρ => R.opt (x.data ρ) fun dx => R.opt (y.data ρ) fun dy => R.opt (bopF op dx dy) fun v => .ok v ρ
  | .cmp op a b, ρ => R.bind (evN a ρ) fun x ρ => R.bind (evN b ρ) fun y ρ => R.opt (x.data ρ) fun dx => R.opt (y.data ρ) fun dy => R.opt (copF op dx dy) fun v => .ok (.dat (.bool v)) ρ
  | .chain o1 o2 a b c, ρ => R.bind (evN a ρ) fun x ρ => R.bind (evN b ρ) fun y ρ => R.opt (x.data ρ) fun dx => R.opt y.dat? fun dy => R.opt (copF o1 dx dy) fun v => R.cond v
      (R.bind (evN c ρ) fun z ρ => R.opt (z.data ρ) fun dz => R.opt (copF o2 dy dz) fun v => .ok (.dat (.bool v)) ρ) (.ok (.dat (.bool false)) ρ)
  | .neg a, ρ =>
    match a with
    | .cst (.int i) => .ok (.dat (.int (-i))) ρ
    | _ => .bad
  | .not a, ρ => R.bind (evN a ρ) fun x ρ => R.bind (asBool x ρ) fun b ρ => .ok (.dat (.bool (!b))) ρ
  | .and a b, ρ => R.bind (evN a ρ) fun x ρ => R.bind (asBool x ρ) fun c ρ => R.cond c (R.bind (evN b ρ) fun x ρ => R.bind (asBool x ρ) fun c ρ => .ok (.dat (.bool c)) ρ) (.ok (.dat (.bool false)) ρ)
  | .or a b, ρ => R.bind (evN a ρ) fun x ρ => R.bind (asBool x ρ) fun c ρ => R.cond c (.ok (.dat (.bool true)) ρ) (R.bind (evN b ρ) fun x ρ => R.bind (asBool x ρ) fun c ρ => .ok (.dat (.bool c)) ρ)
  | .ite c a b, ρ => R.bind (evN c ρ) fun x ρ => R.bind (asBool x ρ) fun t ρ => R.cond t (evN a ρ) (evN b ρ)
  | .tup es, ρ => R.bind (evs es ρ) fun ds ρ => .ok (.dat (.tuple ds)) ρ
  | .lst es, ρ => R.bind (evs es ρ) fun ds ρ => .ok (.lst ds) ρ
  | .tups es, ρ => R.bind (evss es ρ) fun ds ρ => R.chk (decide (ds.length ≤ sizeLine)) (.ok (.dat (.tuple ds)) ρ)
  | .lsts es, ρ => R.bind (evss es ρ) fun ds ρ => R.chk (decide (ds.length ≤ sizeLine)) (.ok (.lst ds) ρ)
  | .star _, _ => .bad
  | .dct ks vs, ρ => R.bind (evs ks ρ) fun ds ρ => R.bind (evs vs ρ) fun es ρ => R.opt (dctF ds es []) fun kvs => .ok (.dic kvs) ρ
  | .idx a b, ρ => R.bind (evN a ρ) fun x ρ => R.bind (evN b ρ) fun y ρ => R.opt (x.data ρ) fun dx => R.opt (y.data ρ) fun dy => R.opt (idxF dx dy) fun v => .ok (.dat v) ρ
  | .slc a lo hi, ρ => R.bind (evN a ρ) fun x ρ => R.bind (evo lo ρ) fun l ρ => R.bind (evo hi ρ) fun h ρ => R.opt (x.dataS ρ) fun d => R.opt (slcF d l h) fun v => .ok v ρ
  | .rev a hi, ρ => R.bind (evN a ρ) fun x ρ => R.bind (evo hi ρ) fun h ρ => R.opt (x.data ρ) fun d => R.opt (revF d h) fun v => .ok v ρ
  | .call f bs es, ρ => R.bind (eva bs es ρ) fun vs ρ => callR Φ f vs ρ
  | .bi f es, ρ => R.bind (evb f es ρ) fun ds ρ => R.opt (biF f ds) fun v => .ok v ρ
  | .it f es, ρ => R.bind (evs es ρ) fun ds ρ => R.opt (itF f ds) fun v => .ok (.lst v) ρ
  | .isi a ts, ρ => R.bind (evN a ρ) fun x ρ => isiR x ts ρ
  | .isx i cs, ρ => isxR G.cls i cs ρ
  | .mth o m es, ρ => R.bind (evN o ρ) fun v ρ => R.chk (mutOk v m ρ) (R.bind (evs es ρ) fun ds ρ => mthR v m ds ρ)
  | .atr i f, ρ => atrR G.cls i f ρ
  | .comp elt t it c, ρ => R.bind (evN it ρ) fun v ρ => R.bind (esc v ρ) fun d ρ => R.opt (iterF d) fun ds => R.chk (allNo t.slots ρ && decide (ds.length < sizeLine))
      (R.bind (compL (fun ρ => R.bind (evN elt ρ) esc) (fun ρ => evc c ρ) t .t .t ds [] ρ) fun l ρ => .ok (.lst l) ρ)
  | .comp2 elt t it t2 it2 c, ρ => R.bind (evN it ρ) fun v ρ => R.bind (esc v ρ) fun d ρ => R.opt (iterF d) fun ds => R.chk (allNo t.slots ρ && allNo t2.slots ρ && decide (ds.length < sizeLine))
      (R.bind (compL2 (fun acc ρ => R.bind (R.bind (evN it2 ρ) esc) fun d ρ => R.opt (iterF d) fun ds => R.chk (decide (acc.length + ds.length < sizeLine)) (compL (fun ρ => R.bind (evN elt ρ) esc) (fun ρ => evc c ρ) t2 .t .t ds acc ρ)) t .t ds [] ρ) fun l ρ => .ok (.lst l) ρ)
  | .dcomp k v t it, ρ => R.bind (evN it ρ) fun x ρ => R.bind (esc x ρ) fun d ρ => R.opt (iterF d) fun ds => R.chk (allNo t.slots ρ && decide (ds.length < sizeLine))
      (R.bind (compD (fun ρ => R.bind (evN k ρ) esc) (fun ρ => R.bind (evN v ρ) esc) t .t .t ds [] ρ) fun l ρ => .ok (.dic l) ρ)
/-- the items of a display -/
def evs : List X → Rho → R (List PyData)
  | [], ρ => .ok [] ρ
  | e :: es, ρ => R.bind (evN e ρ) fun v ρ => R.bind (esc v ρ) fun d ρ => R.bind (evs es ρ) fun r ρ => .ok (d :: r) ρ
/-- .. a star's among them -/
def evss : List X → Rho → R (List PyData)
  | [], ρ => .ok [] ρ
  | .star a :: es, ρ => R.bind (evN a ρ) fun v ρ => R.bind (esc v ρ) fun d ρ => R.opt (items d) fun ds => R.bind (evss es ρ) fun r ρ => .ok (ds ++ r) ρ
  | e :: es, ρ => R.bind (evN e ρ) fun v ρ => R.bind (esc v ρ) fun d ρ => R.bind (evss es ρ) fun r ρ => .ok (d :: r) ρ
/-- arguments that are only read -/
def evb (f : Bi) : List X → Rho → R (List PyData)
  | [], ρ => .ok [] ρ
  | [e], ρ => R.bind (evN e ρ) fun v ρ => R.opt (v.dataB f ρ) fun d => .ok [d] ρ
  | e :: es, ρ => R.bind (evN e ρ) fun v ρ => R.bind (esc v ρ) fun d ρ => R.bind (evs es ρ) fun r ρ => .ok (d :: r) ρ
/-- the arguments of a def: true: lent -/
def eva : List Bool → List X → Rho → R (List NV)
  | [], [], ρ => .ok [] ρ
  | [true], [e], ρ => R.bind (evN e ρ) fun v ρ => .ok [v] ρ
  | true :: bs, e :: es, ρ => R.bind (evN e ρ) fun v ρ => R.bind (fzR v ρ) fun v ρ => R.bind (eva bs es ρ) fun r ρ => .ok (v :: r) ρ
  | false :: bs, e :: es, ρ => R.bind (evN e ρ) fun v ρ => R.bind (esc v ρ) fun d ρ => R.bind (eva bs es ρ) fun r ρ => .ok (.dat d :: r) ρ
  | _, _, _ => .bad
def evo : Option X → Rho → R (Option Int)
  | none, ρ => .ok none ρ
  | some e, ρ => R.bind (evN e ρ) fun v ρ => R.bind (esc v ρ) fun d ρ => asOptInt d ρ
def evc : Option X → Rho → R Bool
  | none, ρ => .ok true ρ
  | some e, ρ => R.bind (evN e ρ) fun v ρ => asBool v ρ
end
/-! ### statements -/
inductive Fl where
  | nx
  | rt (v : NV)
  | bk
  | ct
def FU : Nat := 1000000000
def seqR (m : R Fl) (k : Rho → R Fl) (_ : Tag k := .t) : R Fl :=
  R.bind m fun fl ρ =>
    match fl with
    | .nx => k ρ
    | .rt v => .ok (.rt v) ρ
    | .bk => .ok .bk ρ
    | .ct => .ok .ct ρ
def whlR (c : Rho → R Bool) (b : Rho → R Fl) (tc : Tag c := .t) (tb : Tag b := .t) : Nat → Rho → R Fl
  | 0, _ => .bad
  | n + 1, ρ => R.bind (c ρ) fun t ρ => R.cond t (R.bind (b ρ) fun fl ρ =>
      match fl with
      | .nx => whlR c b tc tb n ρ
      | .ct => whlR c b tc tb n ρ
      | .bk => .ok .nx ρ
      | .rt v => .ok (.rt v) ρ) (.ok .nx ρ)
def forR (t : Tg) (b : Rho → R Fl) (tb : Tag b := .t) : List PyData → Rho → R Fl
  | [], ρ => .ok .nx ρ
  | d :: ds, ρ => R.bind (tgs t d ρ) fun _ ρ => R.bind (b ρ) fun fl ρ =>
      match fl with
      | .nx => forR t b tb ds ρ
      | .ct => forR t b tb ds ρ
      | .bk => .ok .nx ρ
      | .rt v => .ok (.rt v) ρ
def stoP : List Nat → List NV → Rho → R Unit
  | [], [], ρ => .ok () ρ
  | i :: is, v :: vs, ρ => R.bind (sto i v ρ) fun _ ρ => stoP is vs ρ
  | _, _, _ => .bad
def catches (cls : List (Str × Cls)) (x : Exc) (c : Str) : Option Bool := (cls.lookup x.cls).map fun k => k.up.contains c
def mkExc (cls : List (Str × Cls)) (c : Str) (ds : List PyData) : Option Exc := (cls.lookup c).bind fun k => if k.fs.length = ds.length then some ⟨c, k.fs.zip ds⟩ else none
def notExn : SV → Bool
  | .exn _ => false
  | _ => true
def noExn (ρ : Rho) : Bool := ρ.all notExn
def flOk (fl : Fl) (j : Nat) : Bool :=
  match fl with
  | .rt (.ali i) => !Nat.beq i j
  | _ => true
def tryR (cls : List (Str × Cls)) (m : R Fl) (c : Str) (i : Option Nat) (h : Rho → R Fl) (_ : Tag h := .t) : R Fl :=
  match m with
  | .ok fl ρ => .ok fl ρ
  | .bad => .bad
  | .exc x ρ => R.opt (catches cls x c) fun b => R.cond b
      (match i with
      | none => h ρ
      | some j => R.chk (!isBor ρ[j]?) (R.bind (R.nox (h (ρ.set j (.exn x)))) fun fl ρ => R.chk (noExn (ρ.set j .no) && flOk fl j) (.ok fl (ρ.set j .no)))) (.exc x ρ)
/-- a slot's thing gets out -/
def keepR (v : NV) (ρ : Rho) : R NV :=
  match v with
  | .ali i => R.bind (esc (.ali i) ρ) fun d ρ => .ok (.dat d) ρ
  | v => .ok v ρ
/-- values side by side, each for a slot -/
def evp : List X → Rho → R (List NV)
  | [], ρ => .ok [] ρ
  | [e], ρ => R.bind (R.bind (evN G Φ e ρ) keepR) fun v ρ => .ok [v] ρ
  | e :: es, ρ => R.bind (evN G Φ e ρ) fun v ρ => R.bind (esc v ρ) fun d ρ => R.bind (evp es ρ) fun r ρ => .ok (.dat d :: r) ρ
mutual
def exS : S → Rho → R Fl
  | .asg i x, ρ => R.bind (evN G Φ x ρ) fun v ρ => R.bind (sto i v ρ) fun _ ρ => .ok .nx ρ
  | .unp is x, ρ => R.bind (evN G Φ x ρ) fun v ρ => R.bind (esc v ρ) fun d ρ => R.opt (items d) fun ds => R.bind (stos is ds ρ) fun _ ρ => .ok .nx ρ
  | .par is xs, ρ => R.bind (evp G Φ xs ρ) fun vs ρ => R.bind (stoP is vs ρ) fun _ ρ => .ok .nx ρ
  | .put i k v, ρ => R.bind (evN G Φ v ρ) fun z ρ => R.bind (esc z ρ) fun dv ρ => R.chk (isLstS ρ[i]? || isDicS ρ[i]?) <| R.bind (evN G Φ k ρ) fun y ρ => R.opt (y.data ρ) fun dk => R.opt ρ[i]? fun s => R.opt (putF s dk dv) fun s => .ok .nx (ρ.set i s)
  | .expr x, ρ => R.bind (evN G Φ x ρ) fun _ ρ => .ok .nx ρ
  | .ret x, ρ => R.bind (evN G Φ x ρ) fun v ρ => .ok (.rt v) ρ
  | .ife c a b, ρ => R.bind (evN G Φ c ρ) fun v ρ => R.bind (asBool v ρ) fun t ρ => R.cond t (exB a ρ) (exB b ρ)
  | .whl c a, ρ => whlR (fun ρ => R.bind (evN G Φ c ρ) asBool) (fun ρ => exB a ρ) .t .t FU ρ
  | .for_ t it a, ρ => R.bind (evN G Φ it ρ) fun v ρ => R.bind (esc v ρ) fun d ρ => R.opt (iterF d) fun ds => forR t (fun ρ => exB a ρ) .t ds ρ
  | .pass, ρ => .ok .nx ρ
  | .brk, ρ => .ok .bk ρ
  | .cnt, ρ => .ok .ct ρ
  | .raise c es, ρ => R.bind (evs G Φ es ρ) fun ds ρ => R.opt (mkExc G.cls c ds) fun x => .exc x ρ
  | .try_ a c i b, ρ => tryR G.cls (exB a ρ) c i (fun ρ => exB b ρ)
def exB : List S → Rho → R Fl
  | [], ρ => .ok .nx ρ
  | s :: r, ρ => seqR (exS s ρ) fun ρ => exB r ρ
end
/-- what is handed back -/
def retR (np : Nat) (m : R Fl) : R NV :=
  R.bind m fun fl ρ =>
    match fl with
    | .nx => .ok (.dat .none) (ρ.take np)
    | .rt v =>
      match v with
      | .ali i =>
        match ρ[i]? with
        | some (.own false ds) => .ok (.lst ds) ((ρ.set i .no).take np)
        | some (.dic false kvs) => .ok (.dic kvs) ((ρ.set i .no).take np)
        | _ => .bad
      | v => .ok v (ρ.take np)
    | _ => .bad
end
/-- a def of the text, called at depth n -/
def call (G : Pg) : Nat → Calls
  | 0, _, _ => .bad
  | n + 1, f, avs => R.opt (G.fns.lookup f) fun d => R.chk (decide (avs.length = d.np)) (match exB G (call G n) d.body (avs ++ List.replicate (d.nl - d.np) .no) with
    | .exc x ρ => .exc x (ρ.take d.np)
    | m => retR d.np m)
end NV
namespace NV
open PySem
section
variable {α β : Type} {Q : α → Rho → Prop} {Q' : β → Rho → Prop} {E : Exc → Rho → Prop}
theorem W_ok {a : α} {ρ : Rho} : W (.ok a ρ) Q E = Q a ρ := rfl
theorem W_exc {x : Exc} {ρ : Rho} : W (.exc x ρ : R α) Q E = E x ρ := rfl
theorem W_bad : W (.bad : R α) Q E = False := rfl
theorem W_bind {m : R α} {k : α → Rho → R β} : W (R.bind m k) Q' E = W m (fun a ρ => W (k a ρ) Q' E) E := by cases m <;> rfl
theorem W_chk {b : Bool} {m : R α} : W (R.chk b m) Q E = (b = true ∧ W m Q E) := by
  cases b <;> simp [R.chk, W]
theorem W_cond {b : Bool} {m n : R α} : W (R.cond b m n) Q E = ((b = true → W m Q E) ∧ (b = false → W n Q E)) := by
  cases b <;> simp [R.cond]
theorem W_grd {b : Bool} {v : NV} {k : NV → R α} : W (R.opt (grd b v) k) Q E = (b = true ∧ W (k v) Q E) := by
  cases b <;> simp [R.opt, grd, W]
theorem W_opi {b : Prop} [Decidable b] {v : β} {k : β → R α} : W (R.opt (if b then some v else none) k) Q E = (b ∧ W (k v) Q E) := by
  by_cases h : b <;> simp [R.opt, h, W]
def seqQ (k : Rho → R Fl) (Q : Fl → Rho → Prop) (E : Exc → Rho → Prop) (fl : Fl) (ρ : Rho) (_ : Tag k := .t) (_ : Tag Q := .t) (_ : Tag E := .t) : Prop :=
  match fl with
  | .nx => W (k ρ) Q E
  | .rt v => Q (.rt v) ρ
  | .bk => Q .bk ρ
  | .ct => Q .ct ρ
theorem W_seq {m : R Fl} {k : Rho → R Fl} {Q : Fl → Rho → Prop} : W (seqR m k) Q E = W m (fun fl ρ => seqQ k Q E fl ρ) E := by
  cases m with
  | ok fl ρ => cases fl <;> rfl
  | exc x ρ => rfl
  | bad => rfl
theorem seqQ_nx {k : Rho → R Fl} {Q : Fl → Rho → Prop} {ρ : Rho} : seqQ k Q E .nx ρ = W (k ρ) Q E := rfl
theorem seqQ_rt {k : Rho → R Fl} {Q : Fl → Rho → Prop} {ρ : Rho} {v : NV} : seqQ k Q E (.rt v) ρ = Q (.rt v) ρ := rfl
theorem seqQ_bk {k : Rho → R Fl} {Q : Fl → Rho → Prop} {ρ : Rho} : seqQ k Q E .bk ρ = Q .bk ρ := rfl
theorem seqQ_ct {k : Rho → R Fl} {Q : Fl → Rho → Prop} {ρ : Rho} : seqQ k Q E .ct ρ = Q .ct ρ := rfl
theorem W_nox {m : R α} : W (R.nox m) Q E = W m Q (fun _ _ => False) := by cases m <;> rfl
theorem nox_ok {a : α} {ρ : Rho} : R.nox (.ok a ρ) = .ok a ρ := rfl
theorem nox_bad : R.nox (.bad : R α) = .bad := rfl
theorem bind_ok {a : α} {ρ : Rho} {k : α → Rho → R β} : R.bind (.ok a ρ) k = k a ρ := rfl
theorem bind_exc {x : Exc} {ρ : Rho} {k : α → Rho → R β} : R.bind (.exc x ρ) k = .exc x ρ := rfl
theorem bind_bad {k : α → Rho → R β} : R.bind .bad k = .bad := rfl
theorem rc_t {m n : R α} : R.cond true m n = m := rfl
theorem rc_f {m n : R α} : R.cond false m n = n := rfl
theorem chk_true {m : R α} : R.chk true m = m := rfl
theorem chk_false {m : R α} : R.chk false m = .bad := rfl
theorem opt_some {a : α} {k : α → R β} : R.opt (some a) k = k a := rfl
theorem opt_none {k : α → R β} : R.opt none k = .bad := rfl
theorem seq_nx {ρ : Rho} {k : Rho → R Fl} : seqR (.ok .nx ρ) k = k ρ := rfl
theorem seq_rt {ρ : Rho} {k : Rho → R Fl} {v : NV} : seqR (.ok (.rt v) ρ) k = .ok (.rt v) ρ := rfl
theorem seq_bk {ρ : Rho} {k : Rho → R Fl} : seqR (.ok .bk ρ) k = .ok .bk ρ := rfl
theorem seq_ct {ρ : Rho} {k : Rho → R Fl} : seqR (.ok .ct ρ) k = .ok .ct ρ := rfl
theorem seq_exc {x : Exc} {ρ : Rho} {k : Rho → R Fl} : seqR (.exc x ρ) k = .exc x ρ := rfl
theorem W.mono {m : R α} {Q1 : α → Rho → Prop} {E1 : Exc → Rho → Prop} (h : W m Q E) (hq : ∀ a ρ, Q a ρ → Q1 a ρ) (he : ∀ x ρ, E x ρ → E1 x ρ) : W m Q1 E1 := by
  cases m with
  | ok a ρ => exact hq a ρ h
  | exc x ρ => exact he x ρ h
  | bad => exact h
end
end NV
/-! SN: the evaluator's word holds in the model. -/
namespace SN
open PySem L2 NV
open DW (KT Ex Rp RpL WE WT WA WS WB)
/-! ### slots -/
def isOwn : SV → Bool
  | .own _ _ => true
  | .dic _ _ => true
  | _ => false
def lent : SV → Bool
  | .own b _ => b
  | .dic b _ => b
  | _ => false
abbrev kD : Key → PyData := DW.kD
inductive RpD (K : PySem.W.Frag) (H : Hp) : List (Key × V) → List (PyData × PyData) → Prop
  | nil : RpD K H [] []
  | cons {k : Key} {v : V} {d : PyData} {vs : List (Key × V)} {ds : List (PyData × PyData)} : Rp K H v d → RpD K H vs ds → RpD K H ((k, v) :: vs) ((kD k, d) :: ds)
inductive RpF (K : PySem.W.Frag) (H : Hp) : List (Str × V) → List (Str × PyData) → Prop
  | nil : RpF K H [] []
  | cons {k : Str} {v : V} {d : PyData} {vs : List (Str × V)} {ds : List (Str × PyData)} : Rp K H v d → RpF K H vs ds → RpF K H ((k, v) :: vs) ((k, d) :: ds)
section
variable {K : PySem.W.Frag} {H H' : Hp}
theorem RpD.kt (k : KT H H') : ∀ {vs : List (Key × V)} {ds : List (PyData × PyData)}, RpD K H vs ds → RpD K H' vs ds
  | _, _, .nil => .nil
  | _, _, .cons h q => .cons (h.kt k) (RpD.kt k q)
theorem RpF.kt (k : KT H H') : ∀ {vs : List (Str × V)} {ds : List (Str × PyData)}, RpF K H vs ds → RpF K H' vs ds
  | _, _, .nil => .nil
  | _, _, .cons h q => .cons (h.kt k) (RpF.kt k q)
theorem RpF.look (f : Str) : ∀ {vs : List (Str × V)} {ds : List (Str × PyData)} {d : PyData}, RpF K H vs ds → ds.lookup f = some d → ∃ v, vs.lookup f = some v ∧ Rp K H v d
  | _, _, _, .nil, e => nomatch e
  | _, _, d, .cons (k := k) (v := v) h q, e => by
    by_cases hk : (f == k) = true
    · rw [List.lookup_cons, hk] at e
      rw [List.lookup_cons, hk]
      cases e
      exact ⟨v, rfl, h⟩
    · have hk : (f == k) = false := by simpa using hk
      rw [List.lookup_cons, hk] at e
      rw [List.lookup_cons, hk]
      exact RpF.look f q e
end
def OwnAt (K : PySem.W.Frag) (H : Hp) (l : Addr) : SV → Prop
  | .own _ ds => ∃ vs, H l = some (.lst vs) ∧ RpL K H vs ds
  | .dic _ kvs => ∃ vs, H l = some (.dK vs) ∧ RpD K H vs kvs
  | _ => False
def XdOk (K : PySem.W.Frag) (H : Hp) : Option Addr → List (Str × PyData) → Prop
  | none, fs => fs = []
  | some a, fs => ∃ vs, H a = some (.xd vs) ∧ RpF K H vs fs
/-- what surrounds a def's body: the heap at its start, what is lent to it, the exception that is handled -/
structure Cb where
  K : PySem.W.Frag
  H0 : Hp
  B : List (Option Addr)
  ex : Addr → Option Addr → Str → Prop
  Hk : Hp
def SlotOk (C : Cb) (H : Hp) (i : Nat) (v : Option V) : SV → Prop
  | .no => True
  | .dat d => ∃ x, v = some x ∧ Rp C.K H x d
  | .own b ds => ∃ l, v = some (.ref l) ∧ OwnAt C.K H l (.own b ds) ∧ (b = false → C.H0 l = none) ∧ (b = true → C.B[i]? = some (some l))
  | .dic b kvs => ∃ l, v = some (.ref l) ∧ OwnAt C.K H l (.dic b kvs) ∧ (b = false → C.H0 l = none) ∧ (b = true → C.B[i]? = some (some l))
  | .exn x => ∃ a d, v = some (.ref a) ∧ C.ex a d x.cls ∧ XdOk C.K H d x.fs
  | .scr ns => ∃ a, v = some (.ref a) ∧ DW.SqS C.K H a (ns.map V.int)
/-- the caller's things stay, but for what is lent; Hk: data of that heap stays -/
structure Fr (Hk H0 : Hp) (B : List (Option Addr)) (H : Hp) : Prop where
  ext : ∀ b o, H0 b = some o → some b ∉ B → H b = some o
  kt : KT Hk H
structure Rs (C : Cb) (ρ : Rho) (σ : St) (H : Hp) : Prop where
  fr : Fr C.Hk C.H0 C.B H
  len : σ.length = ρ.length
  sl : ∀ (i : Nat) (sv : SV), ρ[i]? = some sv → SlotOk C H i (σ[i]?.join) sv
  sep : ∀ (i j : Nat) (si sj : SV) (l : Addr), ρ[i]? = some si → ρ[j]? = some sj → isOwn si = true → isOwn sj = true → σ[i]? = some (some (.ref l)) → σ[j]? = some (some (.ref l)) → i = j
  bo : ∀ (i : Nat) (l : Addr), C.B[i]? = some (some l) → (∃ sv, ρ[i]? = some sv ∧ lent sv = true) ∧ ∃ o, C.H0 l = some o
/-- an address that no slot owns, and that the caller does not know -/
structure New (C : Cb) (ρ : Rho) (σ : St) (p : Addr) : Prop where
  e : C.H0 p = none
  s : ∀ (i : Nat) (sv : SV), ρ[i]? = some sv → isOwn sv = true → σ[i]? ≠ some (some (.ref p))
def NvOk (C : Cb) (ρ : Rho) (σ : St) (H : Hp) (v : V) : NV → Prop
  | .dat d => Rp C.K H v d
  | .lst ds => ∃ p vs, v = .ref p ∧ New C ρ σ p ∧ H p = some (.lst vs) ∧ RpL C.K H vs ds
  | .dic kvs => ∃ p vs, v = .ref p ∧ New C ρ σ p ∧ H p = some (.dK vs) ∧ RpD C.K H vs kvs
  | .ali i => σ[i]? = some (some v) ∧ ∃ sv, ρ[i]? = some sv ∧ (∀ d, sv ≠ .dat d) ∧ sv ≠ .no
section
variable {C : Cb} {ρ ρ' : Rho} {σ τ : St} {H H' : Hp}
theorem Fr.ex {Hk H0 : Hp} {B : List (Option Addr)} (f : Fr Hk H0 B H) (e : Ex H H') : Fr Hk H0 B H' := ⟨fun b o h n => e b o (f.ext b o h n), f.kt.trans e.kt⟩
theorem OwnAt.ex {K : PySem.W.Frag} {l : Addr} (e : Ex H H') : ∀ {sv : SV}, OwnAt K H l sv → OwnAt K H' l sv
  | .own _ _, ⟨vs, h, q⟩ => ⟨vs, e l _ h, q.kt e.kt⟩
  | .dic _ _, ⟨vs, h, q⟩ => ⟨vs, e l _ h, q.kt e.kt⟩
theorem XdOk.ex {K : PySem.W.Frag} (e : Ex H H') : ∀ {d : Option Addr} {fs : List (Str × PyData)}, XdOk K H d fs → XdOk K H' d fs
  | none, _, h => h
  | some a, _, ⟨vs, h, q⟩ => ⟨vs, e a _ h, q.kt e.kt⟩
theorem SlotOk.ex {i : Nat} {v : Option V} (e : Ex H H') : ∀ {sv : SV}, SlotOk C H i v sv → SlotOk C H' i v sv
  | .no, _ => True.intro
  | .dat _, ⟨x, h, q⟩ => ⟨x, h, q.kt e.kt⟩
  | .own _ _, ⟨l, h, q, r⟩ => ⟨l, h, q.ex e, r⟩
  | .dic _ _, ⟨l, h, q, r⟩ => ⟨l, h, q.ex e, r⟩
  | .exn _, ⟨a, d, h, q, r⟩ => ⟨a, d, h, q, r.ex e⟩
  | .scr _, ⟨a, h, q⟩ => ⟨a, h, q.kt e.kt⟩
theorem Rs.ex (r : Rs C ρ σ H) (e : Ex H H') : Rs C ρ σ H' := ⟨r.fr.ex e, r.len, fun i sv h => (r.sl i sv h).ex e, r.sep, r.bo⟩
theorem Rs.at {i : Nat} {sv : SV} (r : Rs C ρ σ H) (h : ρ[i]? = some sv) : ∃ o, σ[i]? = some o := by
  have h1 : i < ρ.length := (List.getElem?_eq_some_iff.mp h).1
  rw [← r.len] at h1
  exact ⟨_, List.getElem?_eq_getElem h1⟩
theorem Rs.val {i : Nat} {sv : SV} {x : V} (r : Rs C ρ σ H) (h : ρ[i]? = some sv) (e : σ[i]?.join = some x) : σ[i]? = some (some x) := by
  obtain ⟨o, ho⟩ := r.at h
  rw [ho] at e
  rw [ho, show o = some x from e]
theorem Rs.dat {i : Nat} {d : PyData} (r : Rs C ρ σ H) (h : ρ[i]? = some (.dat d)) : ∃ x, σ[i]? = some (some x) ∧ Rp C.K H x d := by
  obtain ⟨x, h1, h2⟩ := r.sl i _ h
  exact ⟨x, r.val h h1, h2⟩
theorem Rs.own {i : Nat} {b : Bool} {ds : List PyData} (r : Rs C ρ σ H) (h : ρ[i]? = some (.own b ds)) : ∃ l vs, σ[i]? = some (some (.ref l)) ∧ H l = some (.lst vs) ∧ RpL C.K H vs ds ∧ (b = false → C.H0 l = none) ∧ (b = true → C.B[i]? = some (some l)) := by
  obtain ⟨l, h1, ⟨vs, h2, h3⟩, h4⟩ := r.sl i _ h
  exact ⟨l, vs, r.val h h1, h2, h3, h4⟩
theorem Rs.dic {i : Nat} {b : Bool} {kvs : List (PyData × PyData)} (r : Rs C ρ σ H) (h : ρ[i]? = some (.dic b kvs)) : ∃ l vs, σ[i]? = some (some (.ref l)) ∧ H l = some (.dK vs) ∧ RpD C.K H vs kvs ∧ (b = false → C.H0 l = none) ∧ (b = true → C.B[i]? = some (some l)) := by
  obtain ⟨l, h1, ⟨vs, h2, h3⟩, h4⟩ := r.sl i _ h
  exact ⟨l, vs, r.val h h1, h2, h3, h4⟩
/-- a slot that owns: its address, what stands there -/
theorem Rs.owned {i : Nat} {sv : SV} (r : Rs C ρ σ H) (h : ρ[i]? = some sv) (ho : isOwn sv = true) : ∃ l o, σ[i]? = some (some (.ref l)) ∧ H l = some o ∧ ((∃ vs, o = .lst vs) ∨ ∃ vs, o = .dK vs) ∧ (C.H0 l = none ∨ some l ∈ C.B) := by
  cases sv with
  | own b ds =>
    obtain ⟨l, vs, h1, h2, _, h4, h5⟩ := r.own h
    refine ⟨l, _, h1, h2, .inl ⟨vs, rfl⟩, ?_⟩
    cases b with
    | false => exact .inl (h4 rfl)
    | true => exact .inr (List.mem_of_getElem? (h5 rfl))
  | dic b ds =>
    obtain ⟨l, vs, h1, h2, _, h4, h5⟩ := r.dic h
    refine ⟨l, _, h1, h2, .inr ⟨vs, rfl⟩, ?_⟩
    cases b with
    | false => exact .inl (h4 rfl)
    | true => exact .inr (List.mem_of_getElem? (h5 rfl))
  | _ => exact nomatch ho
theorem New.of_none {p : Addr} (r : Rs C ρ σ H) (h : H p = none) : New C ρ σ p := by
  refine ⟨?_, fun i sv hi ho e => ?_⟩
  · cases e : C.H0 p with
    | none => rfl
    | some o =>
      by_cases hb : some p ∈ C.B
      · obtain ⟨j, hj⟩ := List.getElem?_of_mem hb
        obtain ⟨⟨sv, h1, h2⟩, _⟩ := r.bo j p hj
        have ho : isOwn sv = true := by cases sv <;> first | rfl | exact nomatch h2
        have : ∃ o, H p = some o := by
          cases sv with
          | own b ds =>
            cases b with
            | false => exact nomatch h2
            | true =>
              obtain ⟨l, vs, _, q, _, _, h5⟩ := r.own h1
              have := h5 rfl
              rw [hj] at this
              cases this
              exact ⟨_, q⟩
          | dic b ds =>
            cases b with
            | false => exact nomatch h2
            | true =>
              obtain ⟨l, vs, _, q, _, _, h5⟩ := r.dic h1
              have := h5 rfl
              rw [hj] at this
              cases this
              exact ⟨_, q⟩
          | _ => exact nomatch ho
        obtain ⟨o, q⟩ := this
        rw [h] at q
        cases q
      · rw [r.fr.ext p o e hb] at h
        cases h
  · obtain ⟨l, o, h1, h2, _⟩ := r.owned hi ho
    rw [e] at h1
    cases h1
    rw [h] at h2
    cases h2
end
end SN
namespace SN
open PySem L2 NV
open DW (KT Ex Rp RpL WE WT WA WS WB)
/-- H' is H but for what stands at l, a thing that may be changed -/
structure Chg (l : Addr) (H H' : Hp) : Prop where
  kt : KT H H'
  ne : ∀ b o, b ≠ l → H b = some o → H' b = some o
  xd : ∀ vs, H l ≠ some (.xd vs)
section
variable {C : Cb} {ρ ρ' : Rho} {σ τ : St} {H H' : Hp} {l p : Addr}
theorem kt_of {o u : HO} (h : H l = some o) (nt : ∀ xs, o ≠ .tup xs) (nf : ∀ a b, o ≠ .frz a b) : KT H (upd H l u) := ⟨fun b zs e => by
  rw [upd_ne (fun z => by rw [z, h] at e; exact nt zs (Option.some.inj e))]
  exact e, fun b o u e => by
  rw [upd_ne (fun z => by rw [z, h] at e; exact nf o u (Option.some.inj e))]
  exact e⟩
theorem Chg.lst {vs : List V} {u : HO} (h : H l = some (.lst vs)) : Chg l H (upd H l u) :=
  ⟨kt_of h (by intro xs z; cases z) (by intro a b z; cases z), fun b o n e => by rw [upd_ne n]; exact e, fun vs z => by rw [h] at z; cases z⟩
theorem Chg.dK {vs : List (Key × V)} {u : HO} (h : H l = some (.dK vs)) : Chg l H (upd H l u) :=
  ⟨kt_of h (by intro xs z; cases z) (by intro a b z; cases z), fun b o n e => by rw [upd_ne n]; exact e, fun vs z => by rw [h] at z; cases z⟩
theorem XdOk.chg {K : PySem.W.Frag} (c : Chg l H H') : ∀ {d : Option Addr} {fs : List (Str × PyData)}, XdOk K H d fs → XdOk K H' d fs
  | none, _, h => h
  | some a, _, ⟨vs, h, q⟩ => ⟨vs, c.ne a _ (fun z => by rw [z] at h; exact c.xd _ h) h, q.kt c.kt⟩
theorem SlotOk.chg {i : Nat} {v : Option V} (c : Chg l H H') : ∀ {sv : SV}, (isOwn sv = true → v ≠ some (.ref l)) → SlotOk C H i v sv → SlotOk C H' i v sv
  | .no, _, _ => True.intro
  | .dat _, _, ⟨x, h, q⟩ => ⟨x, h, q.kt c.kt⟩
  | .own _ _, n, ⟨a, h, ⟨vs, q1, q2⟩, r⟩ => ⟨a, h, ⟨vs, c.ne a _ (fun z => n rfl (by rw [h, z])) q1, q2.kt c.kt⟩, r⟩
  | .dic _ _, n, ⟨a, h, ⟨vs, q1, q2⟩, r⟩ => ⟨a, h, ⟨vs, c.ne a _ (fun z => n rfl (by rw [h, z])) q1, q2.kt c.kt⟩, r⟩
  | .exn _, _, ⟨a, d, h, q, r⟩ => ⟨a, d, h, q, r.chg c⟩
  | .scr _, _, ⟨a, h, q⟩ => ⟨a, h, q.kt c.kt⟩
theorem Fr.chg (f : Fr C.Hk C.H0 C.B H) (c : Chg l H H') (h : C.H0 l = none ∨ some l ∈ C.B) : Fr C.Hk C.H0 C.B H' :=
  ⟨fun b o e n => c.ne b o (fun z => by
    subst z
    rcases h with h | h
    · rw [h] at e; cases e
    · exact n h) (f.ext b o e n), f.kt.trans c.kt⟩
theorem Rs.join_ne {i : Nat} {sv : SV} (r : Rs C ρ σ H) (h : ρ[i]? = some sv) (n : σ[i]? ≠ some (some (.ref l))) : σ[i]?.join ≠ some (.ref l) := fun e => n (r.val h e)
/-- a thing that no slot owns is changed -/
theorem Rs.chg (r : Rs C ρ σ H) (c : Chg l H H') (n : New C ρ σ l) : Rs C ρ σ H' :=
  ⟨r.fr.chg c (.inl n.e), r.len, fun i sv h => (r.sl i sv h).chg c fun ho => r.join_ne h (n.s i sv h ho), r.sep, r.bo⟩
theorem get_set {i j : Nat} {s sv : SV} (h : (ρ.set i s)[j]? = some sv) : (i = j ∧ sv = s ∧ i < ρ.length) ∨ (i ≠ j ∧ ρ[j]? = some sv) := by
  by_cases e : i = j
  · subst e
    by_cases hl : i < ρ.length
    · rw [List.getElem?_set_self hl] at h
      cases h
      exact .inl ⟨rfl, rfl, hl⟩
    · rw [List.getElem?_eq_none (by rw [List.length_set]; omega)] at h
      exact nomatch h
  · rw [List.getElem?_set_ne e] at h
    exact .inr ⟨e, h⟩
/-- what slot i owns is changed, or becomes another thing -/
theorem Rs.put {i : Nat} {s s' : SV} (r : Rs C ρ σ H) (h : ρ[i]? = some s) (ho : isOwn s = true) (hl : σ[i]? = some (some (.ref l))) (c : Chg l H H') (hs : SlotOk C H' i (some (.ref l)) s') (hb : lent s' = lent s) (hoo : isOwn s' = true → isOwn s = true) : Rs C (ρ.set i s') σ H' := by
  have hC : C.H0 l = none ∨ some l ∈ C.B := by
    obtain ⟨l', o, h1, _, _, h4⟩ := r.owned h ho
    rw [hl] at h1
    cases h1
    exact h4
  refine ⟨r.fr.chg c hC, by rw [List.length_set]; exact r.len, fun j sv hj => ?_, fun j1 j2 s1 s2 a h1 h2 o1 o2 e1 e2 => ?_, fun j a hj => ?_⟩
  · rcases get_set hj with ⟨rfl, rfl, _⟩ | ⟨ne, hj⟩
    · rw [hl]
      exact hs
    · refine (r.sl j sv hj).chg c fun hoj => r.join_ne hj fun e => ne (r.sep i j s sv l h hj ho hoj hl e)
  · rcases get_set h1 with ⟨rfl, rfl, _⟩ | ⟨n1, g1⟩
    · rcases get_set h2 with ⟨rfl, rfl, _⟩ | ⟨n2, g2⟩
      · rfl
      · exact r.sep _ _ s s2 a h g2 ho o2 e1 e2
    · rcases get_set h2 with ⟨rfl, rfl, _⟩ | ⟨n2, g2⟩
      · exact r.sep _ _ s1 s a g1 h o1 ho e1 e2
      · exact r.sep _ _ s1 s2 a g1 g2 o1 o2 e1 e2
  · obtain ⟨⟨sv, h1, h2⟩, h3⟩ := r.bo j a hj
    refine ⟨?_, h3⟩
    by_cases e : i = j
    · subst e
      rw [h] at h1
      cases h1
      exact ⟨s', List.getElem?_set_self (List.getElem?_eq_some_iff.mp h).1, hb.trans h2⟩
    · exact ⟨sv, by rw [List.getElem?_set_ne e]; exact h1, h2⟩
/-- slot i gets another value -/
theorem Rs.set {i : Nat} {v : V} {s s' : SV} (r : Rs C ρ σ H) (h : ρ[i]? = some s) (hb : lent s = false) (hs : SlotOk C H i (some v) s') (hn : isOwn s' = true → ∀ a, v = .ref a → ∀ j sv, j ≠ i → ρ[j]? = some sv → isOwn sv = true → σ[j]? ≠ some (some (.ref a))) (hb' : lent s' = false) : Rs C (ρ.set i s') (σ.set i (some v)) H := by
  have hi : i < ρ.length := (List.getElem?_eq_some_iff.mp h).1
  have hiσ : i < σ.length := by rw [r.len]; exact hi
  refine ⟨r.fr, by rw [List.length_set, List.length_set]; exact r.len, fun j sv hj => ?_, fun j1 j2 s1 s2 a h1 h2 o1 o2 e1 e2 => ?_, fun j a hj => ?_⟩
  · rcases get_set hj with ⟨rfl, rfl, _⟩ | ⟨ne, hj⟩
    · rw [List.getElem?_set_self hiσ]
      exact hs
    · rw [List.getElem?_set_ne ne]
      exact r.sl j sv hj
  · rcases get_set h1 with ⟨rfl, rfl, _⟩ | ⟨n1, g1⟩
    · rcases get_set h2 with ⟨rfl, rfl, _⟩ | ⟨n2, g2⟩
      · rfl
      · rw [List.getElem?_set_self hiσ] at e1
        rw [List.getElem?_set_ne n2] at e2
        exact absurd e2 (hn o1 a (Option.some.inj (Option.some.inj e1)) _ _ (Ne.symm n2) g2 o2)
    · rcases get_set h2 with ⟨rfl, rfl, _⟩ | ⟨n2, g2⟩
      · rw [List.getElem?_set_self hiσ] at e2
        rw [List.getElem?_set_ne n1] at e1
        exact absurd e1 (hn o2 a (Option.some.inj (Option.some.inj e2)) _ _ (Ne.symm n1) g1 o1)
      · rw [List.getElem?_set_ne n1] at e1
        rw [List.getElem?_set_ne n2] at e2
        exact r.sep _ _ s1 s2 a g1 g2 o1 o2 e1 e2
  · obtain ⟨⟨sv, h1, h2⟩, h3⟩ := r.bo j a hj
    refine ⟨⟨sv, ?_, h2⟩, h3⟩
    have e : i ≠ j := fun e => by
      subst e
      rw [h] at h1
      cases h1
      rw [hb] at h2
      cases h2
    rw [List.getElem?_set_ne e]
    exact h1
theorem Rs.setD {i : Nat} {v : V} {s : SV} {d : PyData} (r : Rs C ρ σ H) (h : ρ[i]? = some s) (hb : lent s = false) (q : Rp C.K H v d) : Rs C (ρ.set i (.dat d)) (σ.set i (some v)) H := r.set h hb ⟨v, rfl, q⟩ (fun z => nomatch z) rfl
theorem Rs.setO {i : Nat} {s : SV} {ds : List PyData} {vs : List V} (r : Rs C ρ σ H) (h : ρ[i]? = some s) (hb : lent s = false) (n : New C ρ σ p) (hp : H p = some (.lst vs)) (q : RpL C.K H vs ds) : Rs C (ρ.set i (.own false ds)) (σ.set i (some (.ref p))) H :=
  r.set h hb ⟨p, rfl, ⟨vs, hp, q⟩, fun _ => n.e, fun z => nomatch z⟩ (fun _ a e j sv _ hj ho => by cases e; exact n.s j sv hj ho) rfl
theorem Rs.setK {i : Nat} {s : SV} {ds : List (PyData × PyData)} {vs : List (Key × V)} (r : Rs C ρ σ H) (h : ρ[i]? = some s) (hb : lent s = false) (n : New C ρ σ p) (hp : H p = some (.dK vs)) (q : RpD C.K H vs ds) : Rs C (ρ.set i (.dic false ds)) (σ.set i (some (.ref p))) H :=
  r.set h hb ⟨p, rfl, ⟨vs, hp, q⟩, fun _ => n.e, fun z => nomatch z⟩ (fun _ a e j sv _ hj ho => by cases e; exact n.s j sv hj ho) rfl
/-- nothing is known of slot j any more -/
theorem Rs.slot {j : Nat} {s : SV} (r : Rs C ρ σ H) (h : ρ[j]? = some s) (hb : lent s = false) (hl : τ.length = σ.length) (he : ∀ i, i ≠ j → τ[i]? = σ[i]?) : Rs C (ρ.set j .no) τ H := by
  refine ⟨r.fr, by rw [List.length_set, hl]; exact r.len, fun i sv hi => ?_, fun j1 j2 s1 s2 a h1 h2 o1 o2 e1 e2 => ?_, fun i a hi => ?_⟩
  · rcases get_set hi with ⟨rfl, rfl, _⟩ | ⟨ne, hi⟩
    · exact True.intro
    · rw [he i (Ne.symm ne)]
      exact r.sl i sv hi
  · rcases get_set h1 with ⟨rfl, rfl, _⟩ | ⟨n1, h1⟩
    · exact nomatch o1
    rcases get_set h2 with ⟨rfl, rfl, _⟩ | ⟨n2, h2⟩
    · exact nomatch o2
    rw [he _ (Ne.symm n1)] at e1
    rw [he _ (Ne.symm n2)] at e2
    exact r.sep _ _ s1 s2 a h1 h2 o1 o2 e1 e2
  · obtain ⟨⟨sv, h1, h2⟩, h3⟩ := r.bo i a hi
    refine ⟨⟨sv, ?_, h2⟩, h3⟩
    have e : j ≠ i := fun e => by
      subst e
      rw [h] at h1
      cases h1
      rw [hb] at h2
      cases h2
    rw [List.getElem?_set_ne e]
    exact h1
theorem New.set_no {j : Nat} (n : New C ρ σ p) (he : ∀ i, i ≠ j → τ[i]? = σ[i]?) : New C (ρ.set j .no) τ p := by
  refine ⟨n.e, fun i sv hi ho e => ?_⟩
  rcases get_set hi with ⟨rfl, rfl, _⟩ | ⟨ne, hi⟩
  · exact nomatch ho
  · rw [he i (Ne.symm ne)] at e
    exact n.s i sv hi ho e
theorem New.setD {i : Nat} {d : PyData} {v : V} (n : New C ρ σ p) : New C (ρ.set i (.dat d)) (σ.set i (some v)) p := by
  refine ⟨n.e, fun j sv hj ho e => ?_⟩
  rcases get_set hj with ⟨rfl, rfl, _⟩ | ⟨ne, hj⟩
  · exact nomatch ho
  · rw [List.getElem?_set_ne ne] at e
    exact n.s j sv hj ho e
/-- what slot i owned is data now, nothing else -/
theorem New.put {i : Nat} {s' : SV} (n : New C ρ σ p) (h : isOwn s' = true → ∃ s, ρ[i]? = some s ∧ isOwn s = true) : New C (ρ.set i s') σ p := by
  refine ⟨n.e, fun j sv hj ho e => ?_⟩
  rcases get_set hj with ⟨rfl, rfl, _⟩ | ⟨ne, hj⟩
  · obtain ⟨s, h1, h2⟩ := h ho
    exact n.s i s h1 h2 e
  · exact n.s j sv hj ho e
end

/-! ### freezing -/
section
variable {C : Cb} {ρ : Rho} {X : Cx} {pins : List (Addr × Obj)} {σ : St} {H : Hp} {s : Shared} {p : Addr}
theorem frz_lst {vs : List V} {ds : List PyData} {o : Obj} (hp : H p = some (.lst vs)) (hl : RpL C.K H vs ds) : Rp C.K (upd H p (.frz o (.lst vs))) (.ref p) (.list ds) :=
  Rp.lst ⟨o, upd_same⟩ (hl.kt (Chg.lst hp).kt)
theorem freezeL {vs : List V} (I : Inv X pins σ H s) (hp : H p = some (.lst vs)) : ∃ o, Inv X pins σ (upd H p (.frz o (.lst vs))) s :=
  DW.freeze I hp (by intro xs z; cases z) (by intro o w z; cases z) (by intro ps z; cases z) (by intro a z; cases z)
end
end SN
namespace SN
open PySem L2 NV
open DW (KT Ex Rp RpL WE WT WA WS WB Mp DOp DOpL DCall DCallL WW)
/-- where a def is read -/
structure Cn where
  X : Cx
  H0 : Hp
  B : List (Option Addr)
  ex : Addr → Option Addr → Str → Prop
  Hk : Hp
  kx : Exc → Rho → Prop
abbrev Cn.b (C : Cn) : Cb := ⟨C.X.K, C.H0, C.B, C.ex, C.Hk⟩
abbrev Cn.Rs (C : Cn) (ρ : Rho) (σ : St) (H : Hp) : Prop := SN.Rs C.b ρ σ H
def DN (C : Cn) (ρ : Rho) (e : Expr) (k : NV → Rho → Prop) : Prop :=
  ∀ σ H (Q : VK), C.Rs ρ σ H → (∀ v nv ρ' H', KT H H' → C.Rs ρ' σ H' → NvOk C.b ρ' σ H' v nv → k nv ρ' → Q v H') → WE C.X e σ H Q
def DT (C : Cn) (ρ : Rho) (e : Expr) (k : Bool → Rho → Prop) : Prop :=
  ∀ σ H (Q : Bool → Hp → Prop), C.Rs ρ σ H → (∀ b ρ' H', KT H H' → C.Rs ρ' σ H' → k b ρ' → Q b H') → WT C.X e σ H Q
def DWt (C : Cn) (ρ : Rho) (e : Expr) (k : Bool → Rho → Prop) : Prop :=
  ∀ σ H (Q : Bool → Hp → Prop), C.Rs ρ σ H → (∀ b ρ' H', KT H H' → C.Rs ρ' σ H' → k b ρ' → Q b H') → WW C.X e σ H Q
/-- what is held while other things are read: data, or a slot's thing -/
def NfOk (C : Cb) (σ : St) (H : Hp) (v : V) : NV → Prop
  | .dat d => Rp C.K H v d
  | .ali i => σ[i]? = some (some v)
  | .lst ds => Rp C.K H v (.list ds)
  | .dic _ => True
def DF (C : Cn) (ρ : Rho) (e : Expr) (k : NV → Rho → Prop) : Prop :=
  ∀ σ H (Q : VK), C.Rs ρ σ H → (∀ v nv ρ' H', KT H H' → C.Rs ρ' σ H' → NfOk C.b σ H' v nv → k nv ρ' → Q v H') → WE C.X e σ H Q
theorem NfOk.kt {C : Cb} {σ : St} {H H' : Hp} {v : V} (q : KT H H') : ∀ {nv : NV}, NfOk C σ H v nv → NfOk C σ H' v nv
  | .dat _, h => Rp.kt q h
  | .ali _, h => h
  | .lst _, h => Rp.kt q h
  | .dic _, h => h
theorem DN.df {C : Cn} {ρ : Rho} {e : Expr} {k : NV → Rho → Prop} (h : DN C ρ e k) : DF C ρ e k := fun σ H Q r g =>
  (h σ H (fun v H' => ∃ nv ρ', KT H H' ∧ C.Rs ρ' σ H' ∧ NvOk C.b ρ' σ H' v nv ∧ k nv ρ') r fun v nv ρ' H' kt r' ok hk => ⟨nv, ρ', kt, r', ok, hk⟩).thn fun pins s v u H' I rel ⟨nv, ρ', kt, r', ok, hk⟩ => by
    cases nv with
    | dat d => exact ⟨v, H', I, rel, g v (.dat d) ρ' H' kt r' ok hk⟩
    | ali i => exact ⟨v, H', I, rel, g v (.ali i) ρ' H' kt r' ok.1 hk⟩
    | dic kvs => exact ⟨v, H', I, rel, g v (.dic kvs) ρ' H' kt r' True.intro hk⟩
    | lst ds =>
      obtain ⟨p, vs, rfl, n, hp, hl⟩ := ok
      obtain ⟨o, I'⟩ := freezeL I hp
      exact ⟨_, _, I', rel, g _ (.lst ds) ρ' _ (kt.trans (Chg.lst hp).kt) (r'.chg (Chg.lst hp) n) (frz_lst (C := C.b) hp hl) hk⟩
theorem DN.mono {C : Cn} {ρ : Rho} {e : Expr} {k k' : NV → Rho → Prop} (h : DN C ρ e k) (f : ∀ nv ρ', k nv ρ' → k' nv ρ') : DN C ρ e k' := fun σ H Q r g => h σ H Q r fun v nv ρ' H' kt r' ok hk => g v nv ρ' H' kt r' ok (f nv ρ' hk)
/-- data as it stands at the moment -/
inductive Mq (K : PySem.W.Frag) (H : Hp) : V → PyData → Prop
  | mp {v : V} {d : PyData} : Mp K H v d → Mq K H v d
  | dic {l : Addr} {vs : List (Key × V)} {kvs : List (PyData × PyData)} : H l = some (.dK vs) → RpD K H vs kvs → Mq K H (.ref l) (.dict kvs)
section
variable {C : Cn} {ρ ρ' : Rho} {σ : St} {H H' : Hp} {v : V} {nv : NV} {d : PyData}
theorem NfOk.mq (r : C.Rs ρ σ H) (h : NfOk C.b σ H v nv) (e : nv.data ρ = some d) : Mq C.X.K H v d := by
  cases nv with
  | dat d' => cases e; exact .mp (.rp h)
  | lst ds => cases e; exact .mp (.rp h)
  | dic kvs => exact nomatch e
  | ali i =>
    have e' : (ρ[i]?).bind SV.data = some d := e
    cases hs : ρ[i]? with
    | none => rw [hs] at e'; exact nomatch e'
    | some s =>
      rw [hs] at e'
      have hv : σ[i]? = some (some v) := h
      cases s with
      | dat d' =>
        obtain ⟨x, h1, h2⟩ := r.dat hs
        rw [hv] at h1
        cases h1
        cases e'
        exact .mp (.rp h2)
      | own b ds =>
        obtain ⟨l, vs, h1, h2, h3, _⟩ := r.own hs
        rw [hv] at h1
        cases h1
        cases e'
        exact .mp (.own h2 h3)
      | dic b ds =>
        obtain ⟨l, vs, h1, h2, h3, _⟩ := r.dic hs
        rw [hv] at h1
        cases h1
        cases e'
        exact .dic h2 h3
      | no => exact nomatch e'
      | exn x => exact nomatch e'
      | scr ns => exact nomatch e'
theorem Mq.to_mp {K : PySem.W.Frag} (h : Mq K H v d) (n : ∀ kvs, d ≠ .dict kvs) : Mp K H v d := by
  cases h with
  | mp h => exact h
  | dic h q => exact absurd rfl (n _)
end
/-- e is what f tells -/
def SE (C : Cn) (e : Expr) (f : Rho → R NV) : Prop := ∀ ρ k, W (f ρ) k C.kx → DN C ρ e k
def ST (C : Cn) (e : Expr) (f : Rho → R Bool) : Prop := ∀ ρ k, W (f ρ) k C.kx → DT C ρ e k
section
variable {C : Cn} {ρ : Rho} {e a b c : Expr} {pos : Pos} {fa fb fc : Rho → R NV} {α β : Type} {o : Option α} {Q : β → Rho → Prop} {E : Exc → Rho → Prop}
theorem W_opt {k : α → R β} : W (R.opt o k) Q E = ∃ x, o = some x ∧ W (k x) Q E := by
  cases o with
  | none => simp [R.opt, W]
  | some x => simp [R.opt]
theorem SE.df (h : SE C e fa) {k : NV → Rho → Prop} (q : W (fa ρ) k C.kx) : DF C ρ e k := (h ρ _ q).df
theorem fz_data (ρ : Rho) (nv : NV) : nv.fz.data ρ = nv.data ρ := by cases nv <;> rfl
theorem fz_dat (nv : NV) : nv.fz.dat? = nv.dat? := by cases nv <;> rfl
/-! ### constants -/
theorem se_cst {d : PyData} (h : ∀ (ρ : Rho) (k : NV → Rho → Prop), k (.dat d) ρ → DN C ρ e k) : SE C e fun ρ => .ok (.dat d) ρ := fun ρ k q => h ρ k q
theorem se_int {i : Int} {j} : SE C (.Constant (.int i) j pos) fun ρ => .ok (.dat (.int i)) ρ := fun ρ k q σ H Q r g => WE.of pe_int (g _ (.dat (.int i)) ρ H (KT.refl H) r (.int i) q)
theorem se_bl {i : Bool} {j} : SE C (.Constant (.bool i) j pos) fun ρ => .ok (.dat (.bool i)) ρ := fun ρ k q σ H Q r g => WE.of pe_bl (g _ (.dat (.bool i)) ρ H (KT.refl H) r (.bl i) q)
theorem se_str {i : Str} {j} : SE C (.Constant (.str i) j pos) fun ρ => .ok (.dat (.str i)) ρ := fun ρ k q σ H Q r g => WE.of pe_str (g _ (.dat (.str i)) ρ H (KT.refl H) r (.str i) q)
theorem se_non {j} : SE C (.Constant .none j pos) fun ρ => .ok (.dat .none) ρ := fun ρ k q σ H Q r g => WE.of pe_non (g _ (.dat .none) ρ H (KT.refl H) r .non q)
theorem se_globI {x : Str} {i : Int} {t : Tok} (hm : C.X.mg x = some (.int i t)) (hg : Gl C.X x) (hd : (x == ("__debug__" : Str)) = false) : SE C (.Name x pos) fun ρ => .ok (.dat (.int i)) ρ := fun ρ k q σ H Q r g =>
  WE.of (pe_glob (v := .int i) hg hm ⟨_, rfl⟩ hd) (g _ (.dat (.int i)) ρ H (KT.refl H) r (.int i) q)
theorem se_globS {x : Str} {i : Str} {t : Tok} (hm : C.X.mg x = some (.str i t)) (hg : Gl C.X x) (hd : (x == ("__debug__" : Str)) = false) : SE C (.Name x pos) fun ρ => .ok (.dat (.str i)) ρ := fun ρ k q σ H Q r g =>
  WE.of (pe_glob (v := .str i) hg hm ⟨_, rfl⟩ hd) (g _ (.dat (.str i)) ρ H (KT.refl H) r (.str i) q)
/-! ### names -/
theorem se_loc {i : Nat} {x : Str} (hN : C.X.N[i]? = some x) (hv : Vis C.X.env.scope x) (hd : (x == ("__debug__" : Str)) = false) (hcd : (x == ("__classdict__" : Str)) = false) (G : Pg) (Φ : Calls) : SE C (.Name x pos) fun ρ => evN G Φ (.loc i) ρ := fun ρ k q σ H Q r g => by
  refine WE.of (pe_var hN hv hd hcd) ?_
  show tVar i σ H Q
  have q : W (evN G Φ (.loc i) ρ) k C.kx := q
  rw [evN] at q
  cases hs : ρ[i]? with
  | none => rw [hs] at q; exact q.elim
  | some s =>
    rw [hs] at q
    cases s with
    | no => exact q.elim
    | dat d =>
      obtain ⟨y, h1, h2⟩ := r.dat hs
      exact ⟨y, h1, g y (.dat d) ρ H (KT.refl H) r h2 q⟩
    | own b ds =>
      obtain ⟨l, vs, h1, _⟩ := r.own hs
      exact ⟨_, h1, g _ (.ali i) ρ H (KT.refl H) r ⟨h1, _, hs, (by intro d z; cases z), by intro z; cases z⟩ q⟩
    | dic b ds =>
      obtain ⟨l, vs, h1, _⟩ := r.dic hs
      exact ⟨_, h1, g _ (.ali i) ρ H (KT.refl H) r ⟨h1, _, hs, (by intro d z; cases z), by intro z; cases z⟩ q⟩
    | exn y =>
      obtain ⟨a, d, h1, _⟩ := r.sl i _ hs
      have h1 := r.val hs h1
      exact ⟨_, h1, g _ (.ali i) ρ H (KT.refl H) r ⟨h1, _, hs, (by intro d z; cases z), by intro z; cases z⟩ q⟩
    | scr ns =>
      obtain ⟨a, h1, _⟩ := r.sl i _ hs
      have h1 := r.val hs h1
      exact ⟨_, h1, g _ (.ali i) ρ H (KT.refl H) r ⟨h1, _, hs, (by intro d z; cases z), by intro z; cases z⟩ q⟩
end
end SN
namespace SN
open PySem L2 NV
open DW (KT Ex Rp RpL WE WT WA WS WB Mp DOp DOpL DCall DCallL WW DIx)
/-- what follows where nv is given, the slots looked at by nobody -/
def Giv (K : PySem.W.Frag) (H : Hp) (Q : VK) : NV → Prop
  | .dat d => ∀ v H', Ex H H' → Rp K H' v d → Q v H'
  | .lst ds => ∀ p vs H', H p = none → Ex H H' → H' p = some (.lst vs) → RpL K H' vs ds → Q (.ref p) H'
  | .dic kvs => ∀ p vs H', H p = none → Ex H H' → H' p = some (.dK vs) → RpD K H' vs kvs → Q (.ref p) H'
  | .ali _ => False
def OpN (X : Cx) (f : Value → Value → Sem Value) (x y : PyData) (nv : NV) : Prop :=
  ∀ pins s σ H (vx vy : V) (u w : Value) (Q : VK), Inv X pins σ H s → RelV vx u → RelV vy w → Mq X.K H vx x → Mq X.K H vy y → Giv X.K H Q nv → wpAny (model X.prog X.w) X.A (f u w) (EP X pins σ Q) X.xe s
section
variable {X : Cx} {f : Value → Value → Sem Value} {x y : PyData} {nv : NV}
theorem OpN.dop {d : PyData} (h : ∀ kd : PyData → Prop, kd d → DOp X f x y kd) (nx : ∀ kvs, x ≠ .dict kvs) (ny : ∀ kvs, y ≠ .dict kvs) : OpN X f x y (.dat d) := fun pins s σ H vx vy u w Q I rx ry mx my g =>
  h (· = d) rfl pins s σ H vx vy u w Q I rx ry (mx.to_mp nx) (my.to_mp ny) fun v d' H' ex rp e => g v H' ex (e ▸ rp)
theorem OpN.dopL {ds : List PyData} (h : ∀ kd : List PyData → Prop, kd ds → DOpL X f x y kd) (nx : ∀ kvs, x ≠ .dict kvs) (ny : ∀ kvs, y ≠ .dict kvs) : OpN X f x y (.lst ds) := fun pins s σ H vx vy u w Q I rx ry mx my g =>
  h (· = ds) rfl pins s σ H vx vy u w Q I rx ry (mx.to_mp nx) (my.to_mp ny) fun p vs d' H' np ex hp rp e => g p vs H' np ex hp (e ▸ rp)
theorem grd_some {b : Bool} {v w : NV} (h : grd b v = some w) : b = true ∧ v = w := by
  unfold grd at h
  split at h
  · exact ⟨‹_›, Option.some.inj h⟩
  · exact nomatch h
abbrev dc (X : Cx) : DW.DC := ⟨X, fun _ => none, none⟩
theorem bop_snd {op : Operator} (h : bopF op x y = some nv) : OpN X (binaryOp op) x y nv := by
  cases op with
  | Add =>
    unfold bopF at h
    simp only at h
    split at h
    · cases h; exact .dop (fun kd q => DW.do_add (C := dc X) q) (by intro z e; cases e) (by intro z e; cases e)
    · obtain ⟨h1, rfl⟩ := grd_some h
      exact .dop (fun kd q => DW.do_catS (C := dc X) q (of_decide_eq_true h1)) (by intro z e; cases e) (by intro z e; cases e)
    · obtain ⟨h1, rfl⟩ := grd_some h
      exact .dop (fun kd q => DW.do_catT (C := dc X) q (of_decide_eq_true h1)) (by intro z e; cases e) (by intro z e; cases e)
    · obtain ⟨h1, rfl⟩ := grd_some h
      exact .dopL (fun kd q => DW.dol_cat (C := dc X) q (of_decide_eq_true h1)) (by intro z e; cases e) (by intro z e; cases e)
    · exact nomatch h
  | Sub =>
    unfold bopF at h
    simp only at h
    split at h
    · cases h; exact .dop (fun kd q => DW.do_sub (C := dc X) q) (by intro z e; cases e) (by intro z e; cases e)
    · exact nomatch h
  | Mult =>
    unfold bopF at h
    simp only at h
    split at h
    · obtain ⟨h1, rfl⟩ := grd_some h
      refine .dop (fun kd q => DW.do_mul (C := dc X) q ?_) (by intro z e; cases e) (by intro z e; cases e)
      unfold cMul at h1
      rw [Bool.or_eq_true] at h1
      exact h1.imp of_decide_eq_true of_decide_eq_true
    · exact nomatch h
  | FloorDiv =>
    unfold bopF at h
    simp only at h
    split at h
    · obtain ⟨h1, rfl⟩ := grd_some h
      have h2 := of_decide_eq_true h1
      exact .dop (fun kd q => DW.do_fdiv (C := dc X) q h2) (by intro z e; cases e) (by intro z e; cases e)
    · exact nomatch h
  | Mod =>
    unfold bopF at h
    simp only at h
    split at h
    · obtain ⟨h1, rfl⟩ := grd_some h
      exact .dop (fun kd q => DW.do_mod (C := dc X) q (of_decide_eq_true h1)) (by intro z e; cases e) (by intro z e; cases e)
    · exact nomatch h
  | Pow =>
    unfold bopF at h
    simp only at h
    split at h
    · obtain ⟨h1, rfl⟩ := grd_some h
      have h2 := of_decide_eq_true h1
      exact .dop (fun kd q => DW.do_pow (C := dc X) q h2) (by intro z e; cases e) (by intro z e; cases e)
    · exact nomatch h
  | _ => exact nomatch h
theorem nodict {d : PyData} (h : notDict d = true) : ∀ kvs, d ≠ .dict kvs := by
  rintro kvs rfl
  exact nomatch h
theorem eqOk_iff {x y : PyData} (h : eqOk x y = true) : SeqAt.shaped x = true ∧ SeqAt.shaped y = true ∧ notDict x = true ∧ notDict y = true := by
  unfold eqOk at h
  rw [Bool.and_eq_true, Bool.and_eq_true, Bool.and_eq_true] at h
  exact ⟨h.1.1.1, h.1.1.2, h.1.2, h.2⟩
theorem eq_snd {t : Bool} (hm : X.A.units + 200 < cLine) (h : eqF x y = some t) : OpN X (compareOp .Eq) x y (.dat (.bool t)) := by
  unfold eqF at h
  split at h
  · cases h; exact .dop (fun kd q => DW.do_eqS (C := dc X) q) (by intro z e; cases e) (by intro z e; cases e)
  · cases h; exact .dop (fun kd q => DW.do_eqI (C := dc X) q) (by intro z e; cases e) (by intro z e; cases e)
  · cases h; exact .dop (fun kd q => DW.do_eqB (C := dc X) q) (by intro z e; cases e) (by intro z e; cases e)
  · cases h; exact .dop (fun kd q => DW.do_eqL0 (C := dc X) hm q) (by intro z e; cases e) (by intro z e; cases e)
  · cases h; exact .dop (fun kd q => DW.do_eqT0 (C := dc X) hm q) (by intro z e; cases e) (by intro z e; cases e)
  · split at h
    · rename_i h1
      obtain ⟨a, b, c, d⟩ := eqOk_iff h1
      cases h
      exact .dop (fun kd q => DW.do_eq (C := dc X) hm a b q) (nodict c) (nodict d)
    · exact nomatch h
theorem ne_snd {t : Bool} (hm : X.A.units + 200 < cLine) (h : neF x y = some t) : OpN X (compareOp .NotEq) x y (.dat (.bool t)) := by
  unfold neF at h
  split at h
  · cases h; exact .dop (fun kd q => DW.do_neS (C := dc X) q) (by intro z e; cases e) (by intro z e; cases e)
  · cases h; exact .dop (fun kd q => DW.do_neI (C := dc X) q) (by intro z e; cases e) (by intro z e; cases e)
  · cases h; exact .dop (fun kd q => DW.do_neB (C := dc X) q) (by intro z e; cases e) (by intro z e; cases e)
  · cases h; exact .dop (fun kd q => DW.do_neL0 (C := dc X) hm q) (by intro z e; cases e) (by intro z e; cases e)
  · split at h
    · rename_i h1
      obtain ⟨a, b, c, d⟩ := eqOk_iff h1
      cases h
      exact .dop (fun kd q => DW.do_ne (C := dc X) hm a b q) (nodict c) (nodict d)
    · exact nomatch h
/-! ### dicts -/
theorem keyD {v : V} {K : PySem.W.Frag} {H : Hp} (h : Mq K H v x) (hk : isKey x = true) : ∃ k : Key, x = kD k ∧ v = kV k := by
  cases x with
  | int i => exact ⟨.inl i, rfl, (h.to_mp (by intro z e; cases e)).int⟩
  | str i => exact ⟨.inr i, rfl, (h.to_mp (by intro z e; cases e)).str⟩
  | _ => exact nomatch hk
theorem keyEq_kD (k k' : Key) : keyEq (kD k) (kD k') = decide (k = k') := by
  cases k <;> cases k' <;> simp [keyEq, DW.kD]
theorem dget_cons (k' d k : PyData) (ds : List (PyData × PyData)) : dget ((k', d) :: ds) k = if keyEq k' k = true then some d else dget ds k := by
  unfold dget
  rw [List.find?_cons]
  cases keyEq k' k <;> rfl
theorem valV_cons (k' k : Key) (v : V) (vs : List (Key × V)) : valV ((k', v) :: vs) k = if k' = k then some v else valV vs k := by
  unfold valV
  rw [List.find?_cons]
  by_cases e : k' = k <;> simp [e]
theorem dget_some {K : PySem.W.Frag} {H : Hp} (k : Key) : ∀ {vs : List (Key × V)} {kvs : List (PyData × PyData)} {d : PyData}, RpD K H vs kvs → dget kvs (kD k) = some d → ∃ v, valV vs k = some v ∧ Rp K H v d
  | _, _, _, .nil, e => nomatch e
  | _, _, d, .cons (k := k') (v := v) h q, e => by
    rw [dget_cons, keyEq_kD] at e
    rw [valV_cons]
    by_cases hk : k' = k
    · rw [if_pos (by simpa using hk)] at e
      rw [if_pos hk]
      cases e
      exact ⟨v, rfl, h⟩
    · rw [if_neg (by simpa using hk)] at e
      rw [if_neg hk]
      exact dget_some k q e
theorem dget_none {K : PySem.W.Frag} {H : Hp} (k : Key) : ∀ {vs : List (Key × V)} {kvs : List (PyData × PyData)}, RpD K H vs kvs → dget kvs (kD k) = none → valV vs k = none
  | _, _, .nil, e => rfl
  | _, _, .cons (k := k') (v := v) h q, e => by
    rw [dget_cons, keyEq_kD] at e
    rw [valV_cons]
    by_cases hk : k' = k
    · rw [if_pos (by simpa using hk)] at e
      exact nomatch e
    · rw [if_neg (by simpa using hk)] at e
      rw [if_neg hk]
      exact dget_none k q e
theorem RpD.any {K : PySem.W.Frag} {H : Hp} (k : Key) : ∀ {vs : List (Key × V)} {ds : List (PyData × PyData)}, RpD K H vs ds → (vs.any fun kv => decide (kv.1 = k)) = ds.any fun kv => keyEq kv.1 (kD k)
  | _, _, .nil => rfl
  | _, _, .cons _ q => by rw [List.any_cons, List.any_cons, RpD.any k q, keyEq_kD]
theorem RpD.rep {K : PySem.W.Frag} {H : Hp} {v : V} {d : PyData} (k : Key) (r : Rp K H v d) : ∀ {vs : List (Key × V)} {ds : List (PyData × PyData)}, RpD K H vs ds → RpD K H (vs.map fun kv => if kv.1 = k then (kv.1, v) else kv) (ds.map fun kv => if keyEq kv.1 (kD k) = true then (kv.1, d) else kv)
  | _, _, .nil => .nil
  | _, _, .cons (k := k') h q => by
    rw [List.map_cons, List.map_cons]
    by_cases e : k' = k
    · rw [if_pos e, if_pos (by rw [keyEq_kD]; simpa using e)]; exact .cons r (RpD.rep k r q)
    · rw [if_neg e, if_neg (by rw [keyEq_kD]; simpa using e)]; exact .cons h (RpD.rep k r q)
theorem RpD.snoc {K : PySem.W.Frag} {H : Hp} {v : V} {d : PyData} (k : Key) (r : Rp K H v d) : ∀ {vs : List (Key × V)} {ds : List (PyData × PyData)}, RpD K H vs ds → RpD K H (vs ++ [(k, v)]) (ds ++ [(kD k, d)])
  | _, _, .nil => .cons r .nil
  | _, _, .cons h q => .cons h (RpD.snoc k r q)
theorem RpD.put {K : PySem.W.Frag} {H : Hp} {v : V} {d : PyData} {k : Key} {vs : List (Key × V)} {ds : List (PyData × PyData)} (h : RpD K H vs ds) (r : Rp K H v d) : RpD K H (putK vs k v) (dput ds (kD k) d) := by
  unfold putK dput
  rw [h.any k]
  split
  · exact h.rep k r
  · exact h.snoc k r
theorem RpD.length {K : PySem.W.Frag} {H : Hp} : ∀ {vs : List (Key × V)} {ds : List (PyData × PyData)}, RpD K H vs ds → vs.length = ds.length
  | _, _, .nil => rfl
  | _, _, .cons _ q => by rw [List.length_cons, List.length_cons, RpD.length q]
theorem RpD.keys {K : PySem.W.Frag} {H H' : Hp} : ∀ {vs : List (Key × V)} {ds : List (PyData × PyData)}, RpD K H vs ds → RpL K H' (vs.map fun kv => kV kv.1) (ds.map (·.1))
  | _, _, .nil => .nil
  | _, _, .cons (k := k) _ q => .cons (DW.kD_of k) (RpD.keys q)
/-! ### comparisons -/
theorem do_inT {C : DW.DC} {kd : PyData → Prop} {d : PyData} {ds : List PyData} (hm : C.X.A.units + 200 < cLine) (hd : SeqAt.shaped d = true) (hl : SeqAt.shaped (.tuple ds) = true) (q : kd (.bool (ds.any fun z => PyData.eqv z d))) : DOp C.X (compareOp .In) d (.tuple ds) kd := fun pins s σ H vx vy u w Q I rx ry mx my g => by
  obtain ⟨as, r1⟩ := DW.mp_reads I mx rx
  obtain ⟨bs, r2⟩ := DW.mp_reads I my ry
  exact SeqAt.in_tuple_reads r2 r1 (SeqAt.canLay_of_shaped hl) (SeqAt.canLay_of_shaped hd) (DW.room_shp hd hm) ⟨.bl _, H, I, rfl, g _ _ H (Ex.refl H) (.bl _) q⟩
theorem do_ninT {C : DW.DC} {kd : PyData → Prop} {d : PyData} {ds : List PyData} (hm : C.X.A.units + 200 < cLine) (hd : SeqAt.shaped d = true) (hl : SeqAt.shaped (.tuple ds) = true) (q : kd (.bool (!ds.any fun z => PyData.eqv z d))) : DOp C.X (compareOp .NotIn) d (.tuple ds) kd := fun pins s σ H vx vy u w Q I rx ry mx my g => by
  obtain ⟨as, r1⟩ := DW.mp_reads I mx rx
  obtain ⟨bs, r2⟩ := DW.mp_reads I my ry
  exact SeqAt.notIn_tuple_reads r2 r1 (SeqAt.canLay_of_shaped hl) (SeqAt.canLay_of_shaped hd) (DW.room_shp hd hm) ⟨.bl _, H, I, rfl, g _ _ H (Ex.refl H) (.bl _) q⟩
theorem cop_snd {op : CmpOp} {t : Bool} (hm : X.A.units + 200 < cLine) (h : copF op x y = some t) (hd : (op = .In ∨ op = .NotIn) → ∀ kvs, y ≠ .dict kvs) : OpN X (compareOp op) x y (.dat (.bool t)) := by
  cases op with
  | Lt =>
    unfold copF at h
    simp only at h
    split at h
    · cases h; exact .dop (fun kd q => DW.do_lt (C := dc X) q) (by intro z e; cases e) (by intro z e; cases e)
    · exact nomatch h
  | LtE =>
    unfold copF at h
    simp only at h
    split at h
    · cases h; exact .dop (fun kd q => DW.do_le (C := dc X) q) (by intro z e; cases e) (by intro z e; cases e)
    · exact nomatch h
  | Gt =>
    unfold copF at h
    simp only at h
    split at h
    · cases h; exact .dop (fun kd q => DW.do_gt (C := dc X) q) (by intro z e; cases e) (by intro z e; cases e)
    · exact nomatch h
  | GtE =>
    unfold copF at h
    simp only at h
    split at h
    · cases h; exact .dop (fun kd q => DW.do_ge (C := dc X) q) (by intro z e; cases e) (by intro z e; cases e)
    · exact nomatch h
  | Eq => exact eq_snd hm h
  | NotEq => exact ne_snd hm h
  | Is =>
    unfold copF at h
    simp only at h
    split at h
    · rename_i h1
      cases h
      cases y with
      | none =>
        intro pins s σ H vx vy u w Q I rx ry mx my g
        have my' : Mp X.K H vy .none := my.to_mp (by intro z e; cases e)
        cases mx with
        | mp mx => exact DW.do_isN (C := dc X) (kd := fun d' => d' = .bool (NV.isN x)) (by cases x <;> rfl) pins s σ H vx vy u w Q I rx ry mx my' fun v d' H' ex rp e => g v H' ex (e ▸ rp)
        | dic hl hq =>
          cases my'.non
          refine op_isN pins s σ H _ _ u w Q I rx ry ⟨rfl, ?_⟩
          exact g (.bl false) H (Ex.refl H) (Rp.bl false)
      | _ => exact nomatch h1
    · exact nomatch h
  | IsNot =>
    unfold copF at h
    simp only at h
    split at h
    · rename_i h1
      cases h
      cases y with
      | none =>
        intro pins s σ H vx vy u w Q I rx ry mx my g
        have my' : Mp X.K H vy .none := my.to_mp (by intro z e; cases e)
        cases mx with
        | mp mx => exact DW.do_notN (C := dc X) (kd := fun d' => d' = .bool (!NV.isN x)) (by cases x <;> rfl) pins s σ H vx vy u w Q I rx ry mx my' fun v d' H' ex rp e => g v H' ex (e ▸ rp)
        | dic hl hq =>
          cases my'.non
          refine op_notN pins s σ H _ _ u w Q I rx ry ⟨rfl, ?_⟩
          exact g (.bl true) H (Ex.refl H) (Rp.bl true)
      | _ => exact nomatch h1
    · exact nomatch h
  | In =>
    have h : inF x y = some t := h
    unfold inF at h
    split at h
    · split at h
      · cases h
        exact .dop (fun kd q => DW.do_inS (C := dc X) q) (by intro z e; cases e) (by intro z e; cases e)
      · exact nomatch h
    · split at h
      · rename_i h1
        obtain ⟨a, b, c, d⟩ := eqOk_iff h1
        cases h
        exact .dop (fun kd q => DW.do_inL (C := dc X) hm a b q) (nodict c) (nodict d)
      · exact nomatch h
    · split at h
      · rename_i h1
        obtain ⟨a, b, c, d⟩ := eqOk_iff h1
        cases h
        exact .dop (fun kd q => do_inT (C := dc X) hm a b q) (nodict c) (nodict d)
      · exact nomatch h
    · exact absurd rfl (hd (.inl rfl) _)
    · exact nomatch h
  | NotIn =>
    have h : (inF x y).map (!·) = some t := h
    obtain ⟨t', h2, h3⟩ := Option.map_eq_some_iff.mp h
    clear h
    unfold inF at h2
    split at h2
    · split at h2
      · have h := Option.some.inj h2
        subst h
        subst h3
        exact .dop (fun kd q => DW.do_ninS (C := dc X) q) (by intro z e; cases e) (by intro z e; cases e)
      · exact nomatch h2
    · split at h2
      · rename_i h1
        obtain ⟨a, b, c, d⟩ := eqOk_iff h1
        have h := Option.some.inj h2
        subst h
        subst h3
        exact .dop (fun kd q => DW.do_ninL (C := dc X) hm a b q) (nodict c) (nodict d)
      · exact nomatch h2
    · split at h2
      · rename_i h1
        obtain ⟨a, b, c, d⟩ := eqOk_iff h1
        have h := Option.some.inj h2
        subst h
        subst h3
        exact .dop (fun kd q => do_ninT (C := dc X) hm a b q) (nodict c) (nodict d)
      · exact nomatch h2
    · exact absurd rfl (hd (.inr rfl) _)
    · exact nomatch h2
end
end SN
namespace SN
open PySem L2 NV
open DW (KT Ex Rp RpL WE WT WA WS WB Mp DOp DOpL DCall DCallL WW DIx)
section
variable {X : Cx} {x y : PyData}
theorem dic_rd {K : PySem.W.Frag} {H : Hp} {v : V} {kvs : List (PyData × PyData)} (h : Mq K H v (.dict kvs)) : ∃ l vs, v = .ref l ∧ Rd H l (.dK vs) ∧ RpD K H vs kvs := by
  cases h with
  | dic h q => exact ⟨_, _, rfl, .inl h, q⟩
  | mp h =>
    cases h with
    | rp h =>
      cases h with
      | dic h => exact ⟨_, _, rfl, .inr ⟨_, h⟩, .nil⟩
theorem in_dict {t : Bool} {kvs : List (PyData × PyData)} (hm : X.A.units + 200 < cLine) (hk : isKey x = true) : OpN X (compareOp .In) x (.dict kvs) (.dat (.bool (dget kvs x).isSome)) := fun pins s σ H vx vy u w Q I rx ry mx my g => by
  obtain ⟨k, rfl, rfl⟩ := keyD mx hk
  obtain ⟨l, vs, rfl, h1, h2⟩ := dic_rd my
  obtain rfl : w = Value.ref l := ry
  refine d_in (by omega) I (.inl ⟨vs, k, h1, rfl, rfl⟩) rx fun s3 I3 => ⟨.bl _, H, I3, rfl, ?_⟩
  have e : (valV vs k).isSome = (dget kvs (kD k)).isSome := by
    cases hd : dget kvs (kD k) with
    | none => rw [dget_none k h2 hd]; rfl
    | some d =>
      obtain ⟨v, h3, _⟩ := dget_some k h2 hd
      rw [h3]; rfl
  rw [e]
  exact g _ H (Ex.refl H) (Rp.bl _)
theorem nin_dict {t : Bool} {kvs : List (PyData × PyData)} (hm : X.A.units + 200 < cLine) (hk : isKey x = true) : OpN X (compareOp .NotIn) x (.dict kvs) (.dat (.bool (!(dget kvs x).isSome))) := fun pins s σ H vx vy u w Q I rx ry mx my g => by
  obtain ⟨k, rfl, rfl⟩ := keyD mx hk
  obtain ⟨l, vs, rfl, h1, h2⟩ := dic_rd my
  obtain rfl : w = Value.ref l := ry
  refine d_notIn (by omega) I (.inl ⟨vs, k, h1, rfl, rfl⟩) rx fun s3 I3 => ⟨.bl _, H, I3, rfl, ?_⟩
  have e : (valV vs k).isSome = (dget kvs (kD k)).isSome := by
    cases hd : dget kvs (kD k) with
    | none => rw [dget_none k h2 hd]; rfl
    | some d =>
      obtain ⟨v, h3, _⟩ := dget_some k h2 hd
      rw [h3]; rfl
  rw [e]
  exact g _ H (Ex.refl H) (Rp.bl _)
theorem cop_all {op : CmpOp} {t : Bool} (hm : X.A.units + 200 < cLine) (h : copF op x y = some t) : OpN X (compareOp op) x y (.dat (.bool t)) := by
  by_cases hd : (op = .In ∨ op = .NotIn) ∧ ∃ kvs, y = .dict kvs
  · obtain ⟨ho, kvs, rfl⟩ := hd
    rcases ho with rfl | rfl
    · have h : (if isKey x = true then some (dget kvs x).isSome else none) = some t := h
      split at h
      · cases h; exact in_dict (t := true) hm ‹_›
      · exact nomatch h
    · have h : (if isKey x = true then some (dget kvs x).isSome else none).map (!·) = some t := h
      split at h
      · cases h; exact nin_dict (t := true) hm ‹_›
      · exact nomatch h
  · exact cop_snd hm h fun ho kvs e => hd ⟨ho, kvs, e⟩
/-! ### a[b] -/
def rIxD : R2 := fun x y H Q => ∃ a v, x = .ref a ∧ DGet H a y (some v) ∧ Q v H
theorem ix_dict (hu : X.A.units + 1 < cLine) : IxR X rIxD := by
  intro value slice pins s σ H x y v u Q I rx ry h hs
  obtain ⟨a, z, rfl, g, q⟩ := h
  obtain rfl : v = Value.ref a := rx
  have hT := dict_typeIs I g
  have h₂ := d_getItem (A := X.A) (E := X.xe) (Q := EP X pins σ Q) hu I g ry fun w' s3 I3 rw' => ⟨z, H, I3, rw', q⟩
  unfold PyProof.Rows.subscriptTail
  refine wpAny_bind ?_
  rw [getitemInPython_of_ne hT.not_modules]
  refine wpAny_bind (wpAny_specialOf hT PySem.F.slot_dict_getitem.lookup ?_)
  have fin : wpAny (model X.prog X.w) X.A (subscripted slice false (.ref a) u) (fun r s₃ => wpAny (model X.prog X.w) X.A (letTemporaryGo value (.ref a) r >>= fun _ => pure r) (EP X pins σ Q) X.xe s₃) X.xe s := by
    rw [hs]
    exact wpAny_operating (wpAny_mono h₂ (fun r s₃ h₃ => wpAny_bind (wpAny_letTemporaryGo (wpAny_pure h₃))) fun _ _ x => x)
  first
    | exact wpAny_pure (wpAny_bind fin)
    | exact wpAny_bind (wpAny_pure (wpAny_bind fin))
    | exact wpAny_bind fin
def IxN (X : Cx) (x y d : PyData) : Prop := ∀ H (vx vy : V) (Q : VK), Mq X.K H vx x → Mq X.K H vy y → (∀ v, Rp X.K H v d → Q v H) → rIx X.K vx vy H Q ∨ rIxD vx vy H Q
theorem IxN.dix {d : PyData} (h : ∀ kd : PyData → Prop, kd d → DIx X x y kd) (nx : ∀ kvs, x ≠ .dict kvs) (ny : ∀ kvs, y ≠ .dict kvs) : IxN X x y d := fun H vx vy Q mx my g =>
  .inl (h (· = d) rfl H vx vy Q (mx.to_mp nx) (my.to_mp ny) fun v d' rp e => g v (e ▸ rp))
theorem idx_snd {d : PyData} (h : idxF x y = some d) : IxN X x y d := by
  unfold idxF at h
  split at h
  · exact .dix (fun kd q => DW.dix_tup (C := dc X) h q) (by intro z e; cases e) (by intro z e; cases e)
  · exact .dix (fun kd q => DW.dix_lst (C := dc X) h q) (by intro z e; cases e) (by intro z e; cases e)
  · split at h
    · rename_i hz
      obtain ⟨c, h1, rfl⟩ := Option.map_eq_some_iff.mp h
      exact .dix (fun kd q => DW.dix_str (C := dc X) hz h1 q) (by intro z e; cases e) (by intro z e; cases e)
    · exact nomatch h
  · split at h
    · rename_i hk
      intro H vx vy Q mx my g
      obtain ⟨k, rfl, rfl⟩ := keyD my hk
      obtain ⟨l, vs, rfl, h1, h2⟩ := dic_rd mx
      obtain ⟨v, h3, h4⟩ := dget_some k h2 h
      exact .inr ⟨l, v, rfl, .inl ⟨vs, k, h1, rfl, h3.symm⟩, g v h4⟩
    · exact nomatch h
  · exact nomatch h
end
section
variable {C : Cn} {ρ : Rho} {e a b c : Expr} {pos : Pos} {fa fb fc : Rho → R NV} {f : Value → Value → Sem Value} {e0 : Expr}
theorem NvOk.of_giv {ρ : Rho} {σ : St} {H H' : Hp} {Q : VK} {nv : NV} (r : C.Rs ρ σ H) (hn : ∀ i, nv ≠ .ali i) (g : ∀ v H', Ex H H' → NvOk C.b ρ σ H' v nv → Q v H') : Giv C.X.K H Q nv := by
  cases nv with
  | dat d => exact fun v H' ex rp => g v H' ex rp
  | lst ds => exact fun p vs H' np ex hp rp => g _ H' ex ⟨p, vs, rfl, New.of_none r np, hp, rp⟩
  | dic ds => exact fun p vs H' np ex hp rp => g _ H' ex ⟨p, vs, rfl, New.of_none r np, hp, rp⟩
  | ali i => exact absurd rfl (hn i)
theorem bop_ali {op : Operator} {x y : PyData} {nv : NV} (h : bopF op x y = some nv) : ∀ i, nv ≠ .ali i := by
  rintro i rfl
  have gr : ∀ (b : Bool) (v : NV), grd b v = some (.ali i) → v = .ali i := fun b v h => (grd_some h).2
  unfold bopF at h
  repeat' split at h
  all_goals first | (cases h; done) | (have h := gr _ _ h; cases h)
theorem se_bin {op : Operator} (ha : SE C a fa) (hb : SE C b fb) : SE C (.BinOp a op b pos) fun ρ => R.bind (fa ρ) fun x ρ => R.bind (fb ρ) fun y ρ => R.opt (x.data ρ) fun dx => R.opt (y.data ρ) fun dy => R.opt (bopF op dx dy) fun v => .ok v ρ := fun ρ k q σ H Q r g => by
  have hO : OpR C.X (binaryOp op) (fun x y H Q => ∀ pins s σ (v u : Value), Inv C.X pins σ H s → RelV x v → RelV y u → wpAny (model C.X.prog C.X.w) C.X.A (binaryOp op v u) (EP C.X pins σ Q) C.X.xe s) :=
    fun pins s σ H x y v u Q I rx ry z => z pins s σ v u I rx ry
  refine WE.of (pe_op hO WE.pe WE.pe) ?_
  show WE C.X a σ H _
  rw [W_bind] at q
  refine ha.df q σ H _ r fun v1 x ρ1 H1 k1 r1 o1 h1 => ?_
  simp only [W_bind] at h1
  refine hb.df h1 σ H1 _ r1 fun v2 y ρ2 H2 k2 r2 o2 h2 => ?_
  simp only [W_opt] at h2
  obtain ⟨dx, ex, dy, ey, nv, en, h2⟩ := h2
  intro pins s σ' u w I rx ry
  refine bop_snd en pins s σ' H2 v1 v2 u w Q I rx ry ((o1.kt k2).mq r2 ex) (o2.mq r2 ey) ?_
  exact NvOk.of_giv (H' := H2) r2 (bop_ali en) fun v H' ex ok => g v nv ρ2 H' ((k1.trans k2).trans ex.kt) (r2.ex ex) ok h2
theorem se_cmp {op : CmpOp} (hm : C.X.A.units + 200 < cLine) (ha : SE C a fa) (hb : SE C b fb) (hk : behindInMarks op b = false) : SE C (.Compare a [op] [b] pos) fun ρ => R.bind (fa ρ) fun x ρ => R.bind (fb ρ) fun y ρ => R.opt (x.data ρ) fun dx => R.opt (y.data ρ) fun dy => R.opt (copF op dx dy) fun v => .ok (.dat (.bool v)) ρ := fun ρ k q σ H Q r g => by
  refine WE.of (pe_cmpR (DW.opAny op) WE.pe WE.pe hk) ?_
  show WE C.X a σ H _
  rw [W_bind] at q
  refine ha.df q σ H _ r fun v1 x ρ1 H1 k1 r1 o1 h1 => ?_
  simp only [W_bind] at h1
  refine hb.df h1 σ H1 _ r1 fun v2 y ρ2 H2 k2 r2 o2 h2 => ?_
  simp only [W_opt] at h2
  obtain ⟨dx, ex, dy, ey, t, en, h2⟩ := h2
  intro pins s σ' u w I rx ry
  refine cop_all hm en pins s σ' H2 v1 v2 u w Q I rx ry ((o1.kt k2).mq r2 ex) (o2.mq r2 ey) ?_
  exact fun v H' ex ok => g v (.dat (.bool t)) ρ2 H' ((k1.trans k2).trans ex.kt) (r2.ex ex) ok h2
theorem st_cmp {op : CmpOp} (hm : C.X.A.units + 200 < cLine) (ha : SE C a fa) (hb : SE C b fb) (hk : behindInMarks op b = false) : ST C (.Compare a [op] [b] pos) fun ρ => R.bind (R.bind (fa ρ) fun x ρ => R.bind (fb ρ) fun y ρ => R.opt (x.data ρ) fun dx => R.opt (y.data ρ) fun dy => R.opt (copF op dx dy) fun v => .ok (.dat (.bool v)) ρ) asBool := fun ρ k q σ H Q r g => by
  refine WT.of (pt_cmpR (DW.opAny op) WE.pe WE.pe hk) ?_
  show WE C.X a σ H _
  simp only [W_bind] at q
  refine ha.df q σ H _ r fun v1 x ρ1 H1 k1 r1 o1 h1 => ?_
  simp only [W_bind] at h1
  refine hb.df h1 σ H1 _ r1 fun v2 y ρ2 H2 k2 r2 o2 h2 => ?_
  simp only [W_opt] at h2
  obtain ⟨dx, ex, dy, ey, t, en, h2⟩ := h2
  intro pins s σ' u w I rx ry
  refine cop_all hm en pins s σ' H2 v1 v2 u w _ I rx ry ((o1.kt k2).mq r2 ex) (o2.mq r2 ey) ?_
  intro v H' ex ok
  cases ok
  exact ⟨t, rfl, g t ρ2 H' ((k1.trans k2).trans ex.kt) (r2.ex ex) h2⟩
theorem se_idx (hm : C.X.A.units + 200 < cLine) (ha : SE C a fa) (hb : SE C b fb) (hs : PlainIx b) : SE C (.Subscript a b pos) fun ρ => R.bind (fa ρ) fun x ρ => R.bind (fb ρ) fun y ρ => R.opt (x.data ρ) fun dx => R.opt (y.data ρ) fun dy => R.opt (idxF dx dy) fun v => .ok (.dat v) ρ := fun ρ k q σ H Q r g => by
  refine WE.of (pe_ix (ix_seq.or (ix_dict (by omega))) WE.pe WE.pe hs) ?_
  show WE C.X a σ H _
  rw [W_bind] at q
  refine ha.df q σ H _ r fun v1 x ρ1 H1 k1 r1 o1 h1 => ?_
  simp only [W_bind] at h1
  refine hb.df h1 σ H1 _ r1 fun v2 y ρ2 H2 k2 r2 o2 h2 => ?_
  simp only [W_opt] at h2
  obtain ⟨dx, ex, dy, ey, t, en, h2⟩ := h2
  refine idx_snd en H2 v1 v2 Q ((o1.kt k2).mq r2 ex) (o2.mq r2 ey) ?_
  exact fun v ok => g v (.dat t) ρ2 H2 (k1.trans k2) r2 ok h2
/-! ### not, and, or, if -/
theorem se_not (ha : SE C a fa) : SE C (.UnaryOp .Not a pos) fun ρ => R.bind (fa ρ) fun x ρ => R.bind (asBool x ρ) fun b ρ => .ok (.dat (.bool (!b))) ρ := fun ρ k q σ H Q r g => by
  refine WE.of (pe_not WE.pe) ?_
  show WE C.X a σ H _
  rw [W_bind] at q
  refine ha.df q σ H _ r fun v1 x ρ1 H1 k1 r1 o1 h1 => ?_
  simp only [W_bind] at h1
  match x, o1, h1 with
  | .dat (.bool t), o1, h1 =>
    cases o1
    exact ⟨t, rfl, g _ (.dat (.bool _)) ρ1 H1 k1 r1 (Rp.bl _) h1⟩
theorem st_not {ta : Rho → R Bool} (ha : ST C a ta) {fa : Rho → R NV} (e : ∀ ρ, ta ρ = R.bind (fa ρ) asBool) : ST C (.UnaryOp .Not a pos) fun ρ => R.bind (R.bind (fa ρ) fun x ρ => R.bind (asBool x ρ) fun b ρ => .ok (.dat (.bool (!b))) ρ) asBool := fun ρ k q σ H Q r g => by
  refine WT.of (pt_not WT.pt) ?_
  show WT C.X a σ H _
  refine ha ρ (fun b ρ => k (!b) ρ) ?_ σ H _ r fun b ρ1 H1 k1 r1 h1 => g _ ρ1 H1 k1 r1 h1
  rw [e]
  simp only [W_bind] at q ⊢
  refine q.mono (fun x ρ h => ?_) fun _ _ h => h
  match x, h with
  | .dat (.bool t), h => exact h
theorem se_ite {tc : Rho → R Bool} (hc : ST C c tc) (ha : SE C a fa) (hb : SE C b fb) {fc : Rho → R NV} (e : ∀ ρ, tc ρ = R.bind (fc ρ) asBool) : SE C (.IfExp c a b pos) fun ρ => R.bind (fc ρ) fun x ρ => R.bind (asBool x ρ) fun t ρ => R.cond t (fa ρ) (fb ρ) := fun ρ k q σ H Q r g => by
  refine WE.of (pe_ifExp WT.pt WE.pe WE.pe) ?_
  show WT C.X c σ H _
  refine hc ρ (fun t ρ => W (R.cond t (fa ρ) (fb ρ)) k C.kx) ?_ σ H _ r fun t ρ1 H1 k1 r1 h1 => ?_
  · rw [e]
    rw [W_bind] at q ⊢
    exact q.mono (fun x ρ h => by rw [W_bind] at h; exact h) fun _ _ h => h
  · cases t with
    | true => exact iteT (ha ρ1 k h1 σ H1 Q r1 fun v ev ρ2 H2 k2 r2 o2 hk => g v ev ρ2 H2 (k1.trans k2) r2 o2 hk)
    | false => exact iteF (hb ρ1 k h1 σ H1 Q r1 fun v ev ρ2 H2 k2 r2 o2 hk => g v ev ρ2 H2 (k1.trans k2) r2 o2 hk)
theorem st_val (ha : SE C a fa) (he : ∀ whole, isTrue a C.X.env whole = (do let v ← whole; standAt a.pos; holding [v] (truthy v))) : ST C a fun ρ => R.bind (fa ρ) asBool := fun ρ k q σ H Q r g => by
  refine WT.of (pt_val WE.pe he) ?_
  show WE C.X a σ H _
  rw [W_bind] at q
  refine ha.df q σ H _ r fun v1 x ρ1 H1 k1 r1 o1 h1 => ?_
  match x, o1, h1 with
  | .dat (.bool t), o1, h1 =>
    cases o1
    exact ⟨t, rfl, g t ρ1 H1 k1 r1 h1⟩
/-- as ST, whatever the whole is -/
def STw (C : Cn) (e : Expr) (f : Rho → R Bool) : Prop := ∀ ρ k, W (f ρ) k C.kx → DWt C ρ e k
theorem STw.st {ta : Rho → R Bool} (h : STw C a ta) : ST C a ta := fun ρ k q σ H Q r g => fun pins s I => h ρ k q σ H Q r g _ pins s I
variable {rest : List Expr} {ta tb : Rho → R Bool}
def andR (fa fb : Rho → R NV) (ρ : Rho) : R NV := R.bind (fa ρ) fun x ρ => R.bind (asBool x ρ) fun c ρ => R.cond c (R.bind (fb ρ) fun x ρ => R.bind (asBool x ρ) fun c ρ => .ok (.dat (.bool c)) ρ) (.ok (.dat (.bool false)) ρ)
def orR (fa fb : Rho → R NV) (ρ : Rho) : R NV := R.bind (fa ρ) fun x ρ => R.bind (asBool x ρ) fun c ρ => R.cond c (.ok (.dat (.bool true)) ρ) (R.bind (fb ρ) fun x ρ => R.bind (asBool x ρ) fun c ρ => .ok (.dat (.bool c)) ρ)
theorem asBool_dat {x : NV} {ρ : Rho} {k : Bool → Rho → Prop} {E : Exc → Rho → Prop} (h : W (asBool x ρ) k E) : ∃ t, x = .dat (.bool t) ∧ k t ρ := by
  match x, h with
  | .dat (.bool t), h => exact ⟨t, rfl, h⟩
theorem se_one {op : BoolOp} (ha : SE C a fa) : SE C (.BoolOp op [a] pos) fa := fun ρ k q σ H Q r g => WE.of (pe_one WE.pe) (ha ρ k q σ H Q r g)
theorem se_and (ha : SE C a fa) (hb : SE C (.BoolOp .And (b :: rest) pos) fb) : SE C (.BoolOp .And (a :: b :: rest) pos) (andR fa fb) := fun ρ k q σ H Q r g => by
  refine WE.of (pe_and WE.pe WE.pe) ?_
  show WE C.X a σ H _
  unfold andR at q
  rw [W_bind] at q
  refine ha.df q σ H _ r fun v1 x ρ1 H1 k1 r1 o1 h1 => ?_
  simp only [W_bind] at h1
  obtain ⟨t, rfl, h1⟩ := asBool_dat h1
  cases o1
  refine ⟨t, rfl, ?_⟩
  cases t with
  | true =>
    refine iteT ?_
    have h1 : W (R.bind (fb ρ1) fun x ρ => R.bind (asBool x ρ) fun c ρ => .ok (.dat (.bool c)) ρ) k C.kx := h1
    rw [W_bind] at h1
    refine hb.df h1 σ H1 Q r1 fun v2 y ρ2 H2 k2 r2 o2 h2 => ?_
    simp only [W_bind] at h2
    obtain ⟨t, rfl, h2⟩ := asBool_dat h2
    exact g v2 (.dat (.bool t)) ρ2 H2 (k1.trans k2) r2 o2 h2
  | false => exact iteF (g _ (.dat (.bool false)) ρ1 H1 k1 r1 (Rp.bl false) h1)
theorem se_or (ha : SE C a fa) (hb : SE C (.BoolOp .Or (b :: rest) pos) fb) : SE C (.BoolOp .Or (a :: b :: rest) pos) (orR fa fb) := fun ρ k q σ H Q r g => by
  refine WE.of (pe_or WE.pe WE.pe) ?_
  show WE C.X a σ H _
  unfold orR at q
  rw [W_bind] at q
  refine ha.df q σ H _ r fun v1 x ρ1 H1 k1 r1 o1 h1 => ?_
  simp only [W_bind] at h1
  obtain ⟨t, rfl, h1⟩ := asBool_dat h1
  cases o1
  refine ⟨t, rfl, ?_⟩
  cases t with
  | false =>
    refine iteF ?_
    have h1 : W (R.bind (fb ρ1) fun x ρ => R.bind (asBool x ρ) fun c ρ => .ok (.dat (.bool c)) ρ) k C.kx := h1
    rw [W_bind] at h1
    refine hb.df h1 σ H1 Q r1 fun v2 y ρ2 H2 k2 r2 o2 h2 => ?_
    simp only [W_bind] at h2
    obtain ⟨t, rfl, h2⟩ := asBool_dat h2
    exact g v2 (.dat (.bool t)) ρ2 H2 (k1.trans k2) r2 o2 h2
  | true => exact iteT (g _ (.dat (.bool true)) ρ1 H1 k1 r1 (Rp.bl true) h1)
theorem stw_one {op : BoolOp} (ha : ST C a ta) : STw C (.BoolOp op [a] pos) ta := fun ρ k q σ H Q r g => by
  cases op with
  | And => exact WW.of (pw_and1 WT.pt) (ha ρ k q σ H Q r g)
  | Or => exact WW.of (pw_or1 WT.pt) (ha ρ k q σ H Q r g)
theorem stw_and (ha : ST C a fun ρ => R.bind (fa ρ) asBool) (hb : STw C (.BoolOp .And (b :: rest) pos) fun ρ => R.bind (fb ρ) asBool) : STw C (.BoolOp .And (a :: b :: rest) pos) fun ρ => R.bind (andR fa fb ρ) asBool := fun ρ k q σ H Q r g => by
  refine WW.of (pw_and WT.pt WW.pw) ?_
  show WT C.X a σ H _
  have q : W (R.bind (andR fa fb ρ) asBool) k C.kx := q
  unfold andR at q
  rw [W_bind, W_bind] at q
  refine ha ρ (fun t ρ => W (R.cond t (R.bind (fb ρ) asBool) (.ok false ρ)) k C.kx) ?_ σ H _ r fun b1 ρ1 H1 k1 r1 h1 => ?_
  · rw [W_bind]
    refine q.mono (fun x ρ h => ?_) fun _ _ h => h
    rw [W_bind] at h
    obtain ⟨t, rfl, h⟩ := asBool_dat h
    show W (R.cond t (R.bind (fb ρ) asBool) (.ok false ρ)) k C.kx
    cases t with
    | false => exact h
    | true =>
      have h : W (R.bind (fb ρ) fun x ρ => R.bind (asBool x ρ) fun c ρ => .ok (.dat (.bool c)) ρ) (fun a ρ => W (asBool a ρ) k C.kx) C.kx := h
      show W (R.bind (fb ρ) asBool) k C.kx
      rw [W_bind] at h ⊢
      refine h.mono (fun x ρ h => ?_) fun _ _ h => h
      rw [W_bind] at h
      obtain ⟨t, rfl, h⟩ := asBool_dat h
      exact h
  · cases b1 with
    | true => exact iteT (hb ρ1 k h1 σ H1 Q r1 fun b ρ2 H2 k2 r2 h2 => g b ρ2 H2 (k1.trans k2) r2 h2)
    | false => exact iteF (g false ρ1 H1 k1 r1 h1)
theorem stw_or (ha : ST C a fun ρ => R.bind (fa ρ) asBool) (hb : STw C (.BoolOp .Or (b :: rest) pos) fun ρ => R.bind (fb ρ) asBool) : STw C (.BoolOp .Or (a :: b :: rest) pos) fun ρ => R.bind (orR fa fb ρ) asBool := fun ρ k q σ H Q r g => by
  refine WW.of (pw_or WT.pt WW.pw) ?_
  show WT C.X a σ H _
  have q : W (R.bind (orR fa fb ρ) asBool) k C.kx := q
  unfold orR at q
  rw [W_bind, W_bind] at q
  refine ha ρ (fun t ρ => W (R.cond t (.ok true ρ) (R.bind (fb ρ) asBool)) k C.kx) ?_ σ H _ r fun b1 ρ1 H1 k1 r1 h1 => ?_
  · rw [W_bind]
    refine q.mono (fun x ρ h => ?_) fun _ _ h => h
    rw [W_bind] at h
    obtain ⟨t, rfl, h⟩ := asBool_dat h
    show W (R.cond t (.ok true ρ) (R.bind (fb ρ) asBool)) k C.kx
    cases t with
    | true => exact h
    | false =>
      have h : W (R.bind (fb ρ) fun x ρ => R.bind (asBool x ρ) fun c ρ => .ok (.dat (.bool c)) ρ) (fun a ρ => W (asBool a ρ) k C.kx) C.kx := h
      show W (R.bind (fb ρ) asBool) k C.kx
      rw [W_bind] at h ⊢
      refine h.mono (fun x ρ h => ?_) fun _ _ h => h
      rw [W_bind] at h
      obtain ⟨t, rfl, h⟩ := asBool_dat h
      exact h
  · cases b1 with
    | false => exact iteF (hb ρ1 k h1 σ H1 Q r1 fun b ρ2 H2 k2 r2 h2 => g b ρ2 H2 (k1.trans k2) r2 h2)
    | true => exact iteT (g true ρ1 H1 k1 r1 h1)
end
end SN
namespace SN
open PySem L2 NV
open DW (KT Ex Rp RpL WE WT WA WS WB Mp DOp DOpL DCall DCallL WW DIx)
section
variable {C : Cn} {ρ : Rho} {e a b c : Expr} {es : List Expr} {pos : Pos} {fa fb fc : Rho → R NV} {f : Value → Value → Sem Value} {e0 : Expr}
/-! ### chains a < b < c -/
def chainR (o1 o2 : CmpOp) (fa fb fc : Rho → R NV) (ρ : Rho) : R NV := R.bind (fa ρ) fun x ρ => R.bind (fb ρ) fun y ρ => R.opt (x.data ρ) fun dx => R.opt y.dat? fun dy => R.opt (copF o1 dx dy) fun v => R.cond v
      (R.bind (fc ρ) fun z ρ => R.opt (z.data ρ) fun dz => R.opt (copF o2 dy dz) fun v => .ok (.dat (.bool v)) ρ) (.ok (.dat (.bool false)) ρ)
theorem NfOk.dat {σ : St} {H : Hp} {v : V} {nv : NV} {d : PyData} (h : NfOk C.b σ H v nv) (e : nv.dat? = some d) : Rp C.X.K H v d := by
  cases nv with
  | dat d' => cases e; exact h
  | lst ds => cases e; exact h
  | dic kvs => exact nomatch e
  | ali i => exact nomatch e
theorem chain_core {o1 o2 : CmpOp} {Q : VK} {k : NV → Rho → Prop} {σ : St} {H : Hp} (hm : C.X.A.units + 200 < cLine) (ha : SE C a fa) (hb : SE C b fb) (hc : SE C c fc) (r : C.Rs ρ σ H) (q : W (chainR o1 o2 fa fb fc ρ) k C.kx)
    (g : ∀ t ρ' H', KT H H' → C.Rs ρ' σ H' → k (.dat (.bool t)) ρ' → Q (.bl t) H') :
    tChain (fun x y H Q => ∀ pins s σ (v u : Value), Inv C.X pins σ H s → RelV x v → RelV y u → wpAny (model C.X.prog C.X.w) C.X.A (compareOp o1 v u) (EP C.X pins σ Q) C.X.xe s)
      (fun x y H Q => ∀ pins s σ (v u : Value), Inv C.X pins σ H s → RelV x v → RelV y u → wpAny (model C.X.prog C.X.w) C.X.A (compareOp o2 v u) (EP C.X pins σ Q) C.X.xe s) (WE C.X a) (WE C.X b) (WE C.X c) σ H Q := by
  unfold chainR at q
  rw [W_bind] at q
  refine ha.df q σ H _ r fun v1 x ρ1 H1 k1 r1 o1' h1 => ?_
  simp only [W_bind] at h1
  refine hb.df h1 σ H1 _ r1 fun v2 y ρ2 H2 k2 r2 o2' h2 => ?_
  simp only [W_opt] at h2
  obtain ⟨dx, ex, dy, ey, t, en, h2⟩ := h2
  have ry2 : Rp C.X.K H2 v2 dy := o2'.dat ey
  intro pins s σ' u w I rx ry
  refine cop_all hm en pins s σ' H2 v1 v2 u w _ I rx ry ((o1'.kt k2).mq r2 ex) (.mp (.rp ry2)) ?_
  intro v H3 ex3 ok
  cases ok
  refine ⟨t, rfl, ?_⟩
  have k3 := (k1.trans k2).trans ex3.kt
  cases t with
  | false => exact iteF (g false ρ2 H3 k3 (r2.ex ex3) h2)
  | true =>
    refine iteT ?_
    have h2 : W (R.bind (fc ρ2) fun z ρ => R.opt (z.data ρ) fun dz => R.opt (copF o2 dy dz) fun v => .ok (.dat (.bool v)) ρ) k C.kx := h2
    rw [W_bind] at h2
    refine hc.df h2 σ H3 _ (r2.ex ex3) fun v3 z ρ3 H4 k4 r4 o4 h4 => ?_
    simp only [W_opt] at h4
    obtain ⟨dz, ez, t, en2, h4⟩ := h4
    intro pins s σ' u w I rx ry
    refine cop_all hm en2 pins s σ' H4 v2 v3 u w _ I rx ry (.mp (.rp (ry2.kt (ex3.kt.trans k4)))) (o4.mq r4 ez) ?_
    intro v H5 ex5 ok
    cases ok
    exact g t ρ3 H5 ((k3.trans k4).trans ex5.kt) (r4.ex ex5) h4
theorem se_chain {o1 o2 : CmpOp} (hm : C.X.A.units + 200 < cLine) (ha : SE C a fa) (hb : SE C b fb) (hc : SE C c fc) (hk : lastMarks [o1, o2] [b, c] = false) : SE C (.Compare a [o1, o2] [b, c] pos) (chainR o1 o2 fa fb fc) := fun ρ k q σ H Q r g =>
  WE.of (pe_chain (DW.opAny o1) (DW.opAny o2) WE.pe WE.pe WE.pe hk) (chain_core hm ha hb hc r q fun t ρ' H' kt r' hk => g _ (.dat (.bool t)) ρ' H' kt r' (Rp.bl t) hk)
theorem st_chain {o1 o2 : CmpOp} (hm : C.X.A.units + 200 < cLine) (ha : SE C a fa) (hb : SE C b fb) (hc : SE C c fc) (hk : lastMarks [o1, o2] [b, c] = false) : ST C (.Compare a [o1, o2] [b, c] pos) fun ρ => R.bind (chainR o1 o2 fa fb fc ρ) asBool := fun ρ k q σ H Q r g => by
  refine WT.of (pt_chain (DW.opAny o1) (DW.opAny o2) WE.pe WE.pe WE.pe hk) ?_
  rw [W_bind] at q
  exact chain_core hm ha hb hc r q fun t ρ' H' kt r' hk => ⟨t, rfl, g t ρ' H' kt r' hk⟩
/-! ### it gets out -/
def DEd (C : Cn) (ρ : Rho) (e : Expr) (k : PyData → Rho → Prop) : Prop :=
  ∀ σ H (Q : VK), C.Rs ρ σ H → (∀ v d ρ' H', KT H H' → C.Rs ρ' σ H' → Rp C.X.K H' v d → k d ρ' → Q v H') → WE C.X e σ H Q
theorem SE.esc (h : SE C e fa) {k : PyData → Rho → Prop} (q : W (R.bind (fa ρ) NV.esc) k C.kx) : DEd C ρ e k := fun σ H Q r g => by
  rw [W_bind] at q
  refine (h ρ _ q σ H (fun v H' => ∃ nv ρ', KT H H' ∧ C.Rs ρ' σ H' ∧ NvOk C.b ρ' σ H' v nv ∧ W (NV.esc nv ρ') k C.kx) r fun v nv ρ' H' kt r' ok hk => ⟨nv, ρ', kt, r', ok, hk⟩).thn ?_
  rintro pins s v u H' I rel ⟨nv, ρ', kt, r', ok, hk⟩
  cases nv with
  | dat d => exact ⟨v, H', I, rel, g v d ρ' H' kt r' ok hk⟩
  | lst ds =>
    obtain ⟨p, vs, rfl, n, hp, hl⟩ := ok
    obtain ⟨o, I'⟩ := freezeL I hp
    exact ⟨_, _, I', rel, g _ (.list ds) ρ' _ (kt.trans (Chg.lst hp).kt) (r'.chg (Chg.lst hp) n) (frz_lst (C := C.b) hp hl) hk⟩
  | dic kvs =>
    cases kvs with
    | nil =>
      obtain ⟨p, vs, rfl, n, hp, hl⟩ := ok
      cases hl
      obtain ⟨o, I'⟩ := DW.freeze I hp (by intro xs z; cases z) (by intro o w z; cases z) (by intro ps z; cases z) (by intro a z; cases z)
      exact ⟨_, _, I', rel, g _ (.dict []) ρ' _ (kt.trans (Chg.dK hp).kt) (r'.chg (Chg.dK hp) n) (Rp.dic upd_same) hk⟩
    | cons _ _ => exact hk.elim
  | ali i =>
    obtain ⟨hv, sv, hs, hnd, hno⟩ := ok
    have hk : W (match ρ'[i]? with | some (.own b ds) => R.chk (!b) (.ok (.list ds) (ρ'.set i (.dat (.list ds)))) | _ => .bad : R PyData) k C.kx := hk
    rw [hs] at hk
    cases sv with
    | own b ds =>
      cases b with
      | true => exact hk.elim
      | false =>
        have hk : k (.list ds) (ρ'.set i (.dat (.list ds))) := hk
        obtain ⟨l, vs, h1, h2, h3, _⟩ := r'.own hs
        rw [hv] at h1
        cases h1
        obtain ⟨o, I'⟩ := freezeL I h2
        have rp := frz_lst (C := C.b) (o := o) h2 h3
        exact ⟨_, _, I', rel, g _ (.list ds) _ _ (kt.trans (Chg.lst h2).kt) (r'.put (s' := .dat (.list ds)) hs rfl hv (Chg.lst h2) ⟨_, rfl, rp⟩ rfl (fun z => nomatch z)) rp hk⟩
    | _ => exact hk.elim
/-! ### displays -/
def DAd (C : Cn) (ρ : Rho) (es : List Expr) (k : List PyData → Rho → Prop) : Prop :=
  ∀ σ H (Q : List V → Hp → Prop), C.Rs ρ σ H → (∀ vs ds ρ' H', KT H H' → C.Rs ρ' σ H' → RpL C.X.K H' vs ds → k ds ρ' → Q vs H') → WA C.X es σ H Q
def SA (C : Cn) (es : List Expr) (f : Rho → R (List PyData)) : Prop := ∀ ρ k, W (f ρ) k C.kx → DAd C ρ es k
theorem sa_nil : SA C [] fun ρ => .ok [] ρ := fun ρ k q σ H Q r g => WA.of pa_nil (g [] [] ρ H (KT.refl H) r .nil q)
theorem sa_cons {fs : Rho → R (List PyData)} (h : SE C e fa) (hs : SA C es fs) (he : starEach (e :: es) C.X.env = (false, eval e C.X.env) :: starEach es C.X.env) :
    SA C (e :: es) fun ρ => R.bind (fa ρ) fun v ρ => R.bind (esc v ρ) fun d ρ => R.bind (fs ρ) fun r ρ => .ok (d :: r) ρ := fun ρ k q σ H Q r g => by
  refine WA.of (pa_cons WE.pe WA.pa he) ?_
  show WE C.X e σ H _
  refine h.esc (k := fun d ρ => W (R.bind (fs ρ) fun r ρ => .ok (d :: r) ρ) k C.kx) ?_ σ H _ r fun v d ρ1 H1 k1 r1 o1 h1 => ?_
  · rw [W_bind] at q ⊢
    exact q.mono (fun x ρ h => by rw [W_bind] at h; exact h) fun _ _ h => h
  simp only [W_bind] at h1
  refine hs ρ1 _ h1 σ H1 _ r1 fun vs ds ρ2 H2 k2 r2 o2 h2 => ?_
  exact g _ _ ρ2 H2 (k1.trans k2) r2 (.cons (o1.kt k2) o2) h2
/-- so many items, and no more -/
def Few (C : Cn) (f : Rho → R (List PyData)) : Prop := ∀ ρ k, W (f ρ) k C.kx → W (f ρ) (fun ds ρ => ds.length ≤ sizeLine ∧ k ds ρ) C.kx
theorem se_tup {x1} {fs : Rho → R (List PyData)} (h : SA C es fs) (hf : Few C fs) : SE C (.Tuple es x1 pos) fun ρ => R.bind (fs ρ) fun ds ρ => .ok (.dat (.tuple ds)) ρ := fun ρ k q σ H Q r g => by
  refine WE.of (pe_tup WA.pa) ?_
  show WA C.X es σ H _
  rw [W_bind] at q
  refine h ρ _ (hf ρ _ q) σ H _ r fun vs ds ρ1 H1 k1 r1 hl h1 => ?_
  obtain ⟨hz, h1⟩ := h1
  refine ⟨by rw [hl.length]; exact hz, fun p np => ?_⟩
  have ex : Ex H1 (upd H1 p (.tup vs)) := Ex.new np
  exact g _ (.dat (.tuple ds)) ρ1 _ (k1.trans ex.kt) (r1.ex ex) (Rp.tup (SqT.of upd_same) (hl.kt ex.kt)) h1
theorem se_lst {fs : Rho → R (List PyData)} (h : SA C es fs) (hf : Few C fs) : SE C (.List es pos) fun ρ => R.bind (fs ρ) fun ds ρ => .ok (.lst ds) ρ := fun ρ k q σ H Q r g => by
  refine WE.of (pe_lst WA.pa) ?_
  show WA C.X es σ H _
  rw [W_bind] at q
  refine h ρ _ (hf ρ _ q) σ H _ r fun vs ds ρ1 H1 k1 r1 hl h1 => ?_
  obtain ⟨hz, h1⟩ := h1
  refine ⟨by rw [hl.length]; exact hz, fun p np => ?_⟩
  have ex : Ex H1 (upd H1 p (.lst vs)) := Ex.new np
  exact g _ (.lst ds) ρ1 _ (k1.trans ex.kt) (r1.ex ex) ⟨p, vs, rfl, New.of_none r1 np, upd_same, hl.kt ex.kt⟩ h1
theorem se_tups {x1} {fs : Rho → R (List PyData)} (h : SA C es fs) : SE C (.Tuple es x1 pos) fun ρ => R.bind (fs ρ) fun ds ρ => R.chk (decide (ds.length ≤ sizeLine)) (.ok (.dat (.tuple ds)) ρ) := fun ρ k q σ H Q r g => by
  refine WE.of (pe_tup WA.pa) ?_
  show WA C.X es σ H _
  rw [W_bind] at q
  refine h ρ _ q σ H _ r fun vs ds ρ1 H1 k1 r1 hl h1 => ?_
  rw [W_chk] at h1
  have hz := of_decide_eq_true h1.1
  refine ⟨by rw [hl.length]; exact hz, fun p np => ?_⟩
  have ex : Ex H1 (upd H1 p (.tup vs)) := Ex.new np
  exact g _ (.dat (.tuple ds)) ρ1 _ (k1.trans ex.kt) (r1.ex ex) (Rp.tup (SqT.of upd_same) (hl.kt ex.kt)) h1.2
theorem se_lsts {fs : Rho → R (List PyData)} (h : SA C es fs) : SE C (.List es pos) fun ρ => R.bind (fs ρ) fun ds ρ => R.chk (decide (ds.length ≤ sizeLine)) (.ok (.lst ds) ρ) := fun ρ k q σ H Q r g => by
  refine WE.of (pe_lst WA.pa) ?_
  show WA C.X es σ H _
  rw [W_bind] at q
  refine h ρ _ q σ H _ r fun vs ds ρ1 H1 k1 r1 hl h1 => ?_
  rw [W_chk] at h1
  have hz := of_decide_eq_true h1.1
  refine ⟨by rw [hl.length]; exact hz, fun p np => ?_⟩
  have ex : Ex H1 (upd H1 p (.lst vs)) := Ex.new np
  exact g _ (.lst ds) ρ1 _ (k1.trans ex.kt) (r1.ex ex) ⟨p, vs, rfl, New.of_none r1 np, upd_same, hl.kt ex.kt⟩ h1.2
/-! ### slices -/
def DO (C : Cn) (ρ : Rho) (oe : Option Expr) (k : Option Int → Rho → Prop) : Prop :=
  ∀ σ H (Q : Option Int → Hp → Prop), C.Rs ρ σ H → (∀ o ρ' H', KT H H' → C.Rs ρ' σ H' → k o ρ' → Q o H') → DW.WO C.X oe σ H Q
def SO (C : Cn) (oe : Option Expr) (f : Rho → R (Option Int)) : Prop := ∀ ρ k, W (f ρ) k C.kx → DO C ρ oe k
theorem so_none : SO C none fun ρ => .ok none ρ := fun ρ k q σ H Q r g => DW.WO.of po_none (g none ρ H (KT.refl H) r q)
theorem so_some (h : SE C e fa) : SO C (some e) fun ρ => R.bind (fa ρ) fun v ρ => R.bind (esc v ρ) fun d ρ => asOptInt d ρ := fun ρ k q σ H Q r g => by
  refine DW.WO.of (po_some WE.pe) ?_
  show WE C.X e σ H _
  refine h.esc (k := fun d ρ => W (asOptInt d ρ) k C.kx) ?_ σ H _ r fun v d ρ1 H1 k1 r1 o1 h1 => ?_
  · rw [W_bind] at q ⊢
    exact q.mono (fun x ρ h => by rw [W_bind] at h; exact h) fun _ _ h => h
  cases d with
  | int i =>
    cases o1
    exact ⟨i, rfl, g (some i) ρ1 H1 k1 r1 h1⟩
  | _ => exact h1.elim
end
end SN
namespace SN
open PySem L2 NV
open DW (KT Ex Rp RpL WE WT WA WS WB Mp MpL DOp DOpL DCall DCallL WW DIx)
section
variable {C : Cn} {ρ : Rho} {σ : St} {H : Hp} {v : V} {nv : NV} {d : PyData} {e a b c : Expr} {es : List Expr} {pos p p2 : Pos} {fa fb fc : Rho → R NV}
/-- .. or the script -/
inductive Ms (K : PySem.W.Frag) (H : Hp) : V → PyData → Prop
  | mq {v : V} {d : PyData} : Mq K H v d → Ms K H v d
  | scr {a : Addr} {ns : List Int} : DW.SqS K H a (ns.map V.int) → Ms K H (.ref a) (.list (ns.map .int))
theorem Ms.lst {K : PySem.W.Frag} {ds : List PyData} (h : Ms K H v (.list ds)) : ∃ l vs, v = .ref l ∧ SqL K H l vs ∧ RpL K H vs ds := by
  cases h with
  | mq h => exact (h.to_mp (by intro z e; cases e)).lst
  | scr h => exact ⟨_, _, rfl, h.l, RpL.ofInts _⟩
theorem Ms.to_mq {K : PySem.W.Frag} (h : Ms K H v d) (n : ∀ ds, d ≠ .list ds) : Mq K H v d := by
  cases h with
  | mq h => exact h
  | scr h => exact absurd rfl (n _)
theorem ali_ms {i : Nat} (r : C.Rs ρ σ H) (hv : σ[i]? = some (some v)) (e : (ρ[i]?).bind SV.data1 = some d) : Ms C.X.K H v d := by
  cases hs : ρ[i]? with
  | none => rw [hs] at e; exact nomatch e
  | some s =>
    rw [hs] at e
    cases s with
    | scr ns =>
      cases e
      obtain ⟨a, h1, h2⟩ := r.sl i _ hs
      have h1 := r.val hs h1
      rw [hv] at h1
      cases h1
      exact .scr h2
    | no => exact nomatch e
    | exn x => exact nomatch e
    | dat d' => exact .mq (NfOk.mq (nv := .ali i) r hv (by show (ρ[i]?).bind SV.data = _; rw [hs]; exact e))
    | own b ds => exact .mq (NfOk.mq (nv := .ali i) r hv (by show (ρ[i]?).bind SV.data = _; rw [hs]; exact e))
    | dic b ds => exact .mq (NfOk.mq (nv := .ali i) r hv (by show (ρ[i]?).bind SV.data = _; rw [hs]; exact e))
theorem NfOk.ms (r : C.Rs ρ σ H) (h : NfOk C.b σ H v nv) (e : nv.dataS ρ = some d) : Ms C.X.K H v d := by
  cases nv with
  | ali i => exact ali_ms r h e
  | dat d' => exact .mq (NfOk.mq (nv := .dat d') r h e)
  | lst ds => exact .mq (NfOk.mq (nv := .lst ds) r h e)
  | dic kvs => exact nomatch e
theorem NvOk.ms (r : C.Rs ρ σ H) (h : NvOk C.b ρ σ H v nv) (e : nv.data1 ρ = some d) : Ms C.X.K H v d := by
  cases nv with
  | ali i => exact ali_ms r h.1 e
  | dat d' => cases e; exact .mq (.mp (.rp h))
  | lst ds =>
    cases e
    obtain ⟨p, vs, rfl, _, h1, h2⟩ := h
    exact .mq (.mp (.own h1 h2))
  | dic kvs =>
    cases e
    obtain ⟨p, vs, rfl, _, h1, h2⟩ := h
    exact .mq (.dic h1 h2)
/-! ### a[lo:hi] -/
theorem se_slc {lo hi : Option Expr} {fl fh : Rho → R (Option Int)} (h : SE C e fa) (hl : SO C lo fl) (hh : SO C hi fh) : SE C (.Subscript e (.Slice lo hi none p2) pos) fun ρ => R.bind (fa ρ) fun x ρ => R.bind (fl ρ) fun l ρ => R.bind (fh ρ) fun h ρ => R.opt (x.dataS ρ) fun d => R.opt (slcF d l h) fun v => .ok v ρ := fun ρ k q σ H Q r g => by
  refine WE.of (pe_slice (sl_tupA.or (sl_list.or sl_str)) WE.pe DW.WO.po DW.WO.po) ?_
  show WE C.X e σ H _
  rw [W_bind] at q
  refine h.df q σ H _ r fun v1 x ρ1 H1 k1 r1 o1 h1 => ?_
  simp only [W_bind] at h1
  refine hl ρ1 _ h1 σ H1 _ r1 fun l ρ2 H2 k2 r2 h2 => ?_
  simp only [W_bind] at h2
  refine hh ρ2 _ h2 σ H2 _ r2 fun u ρ3 H3 k3 r3 h3 => ?_
  simp only [W_opt] at h3
  obtain ⟨d, ed, nv, en, h3⟩ := h3
  have ms := (o1.kt (k2.trans k3)).ms r3 ed
  unfold slcF at en
  split at en
  · cases en
    obtain ⟨t, vs, rfl, e1, e2⟩ := ((ms.to_mq (by intro z e; cases e)).to_mp (by intro z e; cases e)).tup
    rename_i ds
    have hl := e2.length
    refine .inl ⟨t, vs, rfl, e1, fun hw => ?_, fun hw p np => ?_⟩
    · have e : DW.cutD ds l u = ds := by
        unfold DW.cutD
        rw [← hl, hw.1, hw.2, List.drop_zero, Nat.sub_zero, List.take_of_length_le (by rw [hl]; exact Nat.le_refl _)]
      rw [e] at h3
      exact g _ (.dat (.tuple ds)) ρ3 H3 ((k1.trans k2).trans k3) r3 (Rp.tup e1 e2) h3
    · have ex : Ex H3 (L2.upd H3 p (.tup (cutV vs l u))) := Ex.new np
      exact g _ (.dat (.tuple (DW.cutD ds l u))) ρ3 _ (((k1.trans k2).trans k3).trans ex.kt) (r3.ex ex) (Rp.tup (SqT.of upd_same) ((DW.cut_rpl e2 l u).kt ex.kt)) h3
  · cases en
    rename_i ds
    obtain ⟨t, vs, rfl, e1, e2⟩ := ms.lst
    refine .inr (.inl ⟨t, vs, rfl, e1, fun p np => ?_⟩)
    have ex : Ex H3 (L2.upd H3 p (.lst (cutV vs l u))) := Ex.new np
    exact g _ (.lst (DW.cutD ds l u)) ρ3 _ (((k1.trans k2).trans k3).trans ex.kt) (r3.ex ex) ⟨p, _, rfl, New.of_none r3 np, upd_same, (DW.cut_rpl e2 l u).kt ex.kt⟩ h3
  · split at en
    · rename_i z hz
      cases en
      cases ((ms.to_mq (by intro z e; cases e)).to_mp (by intro z e; cases e)).str
      exact .inr (.inr ⟨z, rfl, hz, g _ (.dat (.str _)) ρ3 H3 ((k1.trans k2).trans k3) r3 (Rp.str _) h3⟩)
    · exact nomatch en
  · exact nomatch en
theorem se_rev {hi : Option Expr} {fh : Rho → R (Option Int)} {kk : Nat} {p1 p3 p4 : Pos} (h : SE C e fa) (hh : SO C hi fh) : SE C (.Subscript e (.Slice none hi (some (.UnaryOp .USub (.Constant (.int 1) kk p1) p3)) p4) pos) fun ρ => R.bind (fa ρ) fun x ρ => R.bind (fh ρ) fun h ρ => R.opt (x.data ρ) fun d => R.opt (revF d h) fun v => .ok v ρ := fun ρ k q σ H Q r g => by
  refine WE.of (DW.pe_revT WE.pe DW.WO.po) ?_
  show WE C.X e σ H _
  rw [W_bind] at q
  refine h.df q σ H _ r fun v1 x ρ1 H1 k1 r1 o1 h1 => ?_
  simp only [W_bind] at h1
  refine hh ρ1 _ h1 σ H1 _ r1 fun u ρ2 H2 k2 r2 h2 => ?_
  simp only [W_opt] at h2
  obtain ⟨d, ed, nv, en, h2⟩ := h2
  have mq := (o1.kt k2).mq r2 ed
  unfold revF at en
  split at en
  · rename_i hu
    split at en
    · rename_i ds
      cases en
      obtain ⟨t, vs, rfl, e1, e2⟩ := (mq.to_mp (by intro z e; cases e)).tup
      refine ⟨t, vs, rfl, e1, hu, fun p np => ?_⟩
      have ex : Ex H2 (L2.upd H2 p (.tup (DW.revCut vs u))) := Ex.new np
      refine g _ (.dat (.tuple (DW.revCut ds u))) ρ2 _ ((k1.trans k2).trans ex.kt) (r2.ex ex) (Rp.tup (SqT.of upd_same) (RpL.kt ex.kt ?_)) h2
      unfold DW.revCut
      split
      · exact e2.reverse
      · exact (e2.drop 1).reverse
    · exact nomatch en
  · exact nomatch en
/-! ### isinstance -/
theorem Mq.ty {K : PySem.W.Frag} (h : Mq K H v d) : TyX K H v (.type (DW.tyName d)) := by
  cases h with
  | mp h => exact DW.mp_ty h
  | dic h q => exact .base (.dK h)
def tyN : Ty → String
  | .int => "int"
  | .bool => "bool"
  | .str => "str"
  | .tuple => "tuple"
  | .list => "list"
def tyS (t : Ty) : Str := Str.ofString (tyN t)
theorem ty_kit (t : Ty) (d : PyData) : kitB (DW.tyName d) (tyN t) = some (tyIs t d) := by
  cases t with
  | int => exact DW.kInt d
  | bool => exact DW.kBool d
  | str => exact DW.kStr d
  | tuple => exact DW.kTup d
  | list => exact DW.kLst d
theorem ty_boot (t : Ty) : bootBuiltins (tyS t) = some (.type (tyN t)) := by
  cases t with
  | int => exact DW.bt_int
  | bool => exact DW.bt_bool
  | str => exact DW.bt_str
  | tuple => exact DW.bt_tuple
  | list => exact DW.bt_list
theorem ty_name (t : Ty) : tyS t ≠ "__name__" ∧ (tyS t == ("__debug__" : Str)) = false := by
  cases t <;> exact ⟨by decide, by decide⟩
theorem star1 {x : Str} {p : Pos} {es : List Expr} {env : Env} : starEach (.Name x p :: es) env = (false, eval (.Name x p) env) :: starEach es env := rfl
theorem se_isi1 {t : Ty} (h : SE C a fa) (hm : C.X.mg "isinstance" = none) (hmT : C.X.mg (tyS t) = none) (hg : Gl C.X "isinstance") (hgT : Gl C.X (tyS t)) (he : ∀ es, starEach (a :: es) C.X.env = (false, eval a C.X.env) :: starEach es C.X.env) :
    SE C (.Call (.Name "isinstance" p) [a, .Name (tyS t) p2] [] pos) fun ρ => R.bind (fa ρ) fun x ρ => isiR x [t] ρ := fun ρ k q σ H Q r g => by
  refine WE.of (pe_callB call_isi hg hm (by decide +kernel) (pa_cons WE.pe (pa_cons (pe_bltn (v := .ty (tyN t)) hgT hmT (ty_boot t) rfl (ty_name t).1 (ty_name t).2) pa_nil star1) (he _)) (by decide) (by decide) (he _) (by rfl)) ?_
  show WE C.X a σ H _
  rw [W_bind] at q
  refine h.df q σ H _ r fun v1 x ρ1 H1 k1 r1 o1 h1 => ?_
  simp only [isiR, W_opt] at h1
  obtain ⟨d, ed, h1⟩ := h1
  have mq := o1.mq r1 ed
  refine ⟨v1, .ty (tyN t), .type (DW.tyName d), .type (tyN t), tyIs t d, rfl, .ty _, mq.ty, kit_ty (ty_kit t d), g _ (.dat (.bool (tyIs t d))) ρ1 H1 k1 r1 (Rp.bl _) ?_⟩
  have e : ([t].any fun t => tyIs t d) = tyIs t d := by simp
  have h1 : k (.dat (.bool ([t].any fun t => tyIs t d))) ρ1 := h1
  rw [e] at h1
  exact h1
theorem se_isi2 {t u : Ty} {x1} {p3 p4 : Pos} (h : SE C a fa) (hm : C.X.mg "isinstance" = none) (hmT : C.X.mg (tyS t) = none) (hmU : C.X.mg (tyS u) = none) (hg : Gl C.X "isinstance") (hgT : Gl C.X (tyS t)) (hgU : Gl C.X (tyS u)) (he : ∀ es, starEach (a :: es) C.X.env = (false, eval a C.X.env) :: starEach es C.X.env) :
    SE C (.Call (.Name "isinstance" p) [a, .Tuple [.Name (tyS t) p2, .Name (tyS u) p3] x1 p4] [] pos) fun ρ => R.bind (fa ρ) fun x ρ => isiR x [t, u] ρ := fun ρ k q σ H Q r g => by
  refine WE.of (pe_callB call_isiT hg hm (by decide +kernel) (pa_cons WE.pe (pa_cons (pe_tup (pa_cons (pe_bltn (v := .ty (tyN t)) hgT hmT (ty_boot t) rfl (ty_name t).1 (ty_name t).2) (pa_cons (pe_bltn (v := .ty (tyN u)) hgU hmU (ty_boot u) rfl (ty_name u).1 (ty_name u).2) pa_nil star1) star1)) pa_nil (by rfl)) (he _)) (by decide) (by decide) (he _) (by rfl)) ?_
  show WE C.X a σ H _
  rw [W_bind] at q
  refine h.df q σ H _ r fun v1 x ρ1 H1 k1 r1 o1 h1 => ?_
  simp only [isiR, W_opt] at h1
  obtain ⟨d, ed, h1⟩ := h1
  refine ⟨by show 2 ≤ sizeLine; decide, fun q nq => ?_⟩
  have ex : Ex H1 (L2.upd H1 q (.tup [.ty (tyN t), .ty (tyN u)])) := Ex.new nq
  have mq : Mq C.X.K (L2.upd H1 q (.tup [.ty (tyN t), .ty (tyN u)])) v1 d := (o1.kt ex.kt).mq (r1.ex ex) ed
  refine ⟨v1, q, [.ty (tyN t), .ty (tyN u)], .type (DW.tyName d), [.type (tyN t), .type (tyN u)], tyIs t d || tyIs u d, rfl, upd_same, .cons (.ty _) (.cons (.ty _) .nil), mq.ty, ?_, g _ (.dat (.bool _)) ρ1 _ (k1.trans ex.kt) (r1.ex ex) (Rp.bl _) ?_⟩
  · refine kitAny_cons (kit_ty (ty_kit t d)) (fun z => ?_) (fun z => by rw [z]; rfl)
    rw [z, Bool.false_or]
    refine kitAny_cons (kit_ty (ty_kit u d)) (fun z => ?_) (fun z => z)
    rw [z]
    rfl
  · have h1 : k (.dat (.bool ([t, u].any fun t => tyIs t d))) ρ1 := h1
    have e : ([t, u].any fun t => tyIs t d) = (tyIs t d || tyIs u d) := by simp
    rw [e] at h1
    exact h1
end
end SN
namespace SN
open PySem L2 NV
open DW (KT Ex Rp RpL WE WT WA WS WB Mp MpL DOp DOpL DCall DCallL WW DIx)
/-! ### built-ins -/
def biV : Bi → Value
  | .len => .builtin "len"
  | .abs => .builtin "abs"
  | .int => .type "int"
  | .min => .builtin "min"
  | .max => .builtin "max"
  | .sum => .builtin "sum"
  | .all => .builtin "all"
  | .any => .builtin "any"
  | .tuple => .type "tuple"
  | .list => .type "list"
  | .dict => .type "dict"
  | .repr => .builtin "repr"
def biS : Bi → Str
  | .len => "len"
  | .abs => "abs"
  | .int => "int"
  | .min => "min"
  | .max => "max"
  | .sum => "sum"
  | .all => "all"
  | .any => "any"
  | .tuple => "tuple"
  | .list => "list"
  | .dict => "dict"
  | .repr => "repr"
theorem bi_boot (f : Bi) : bootBuiltins (biS f) = some (biV f) := by cases f <;> decide +kernel
theorem bi_name (f : Bi) : biS f ≠ "__name__" ∧ (biS f == ("__debug__" : Str)) = false := by cases f <;> exact ⟨by decide, by decide⟩
def CallN (X : Cx) (f : Value) (d : PyData) (nv : NV) : Prop :=
  ∀ pins s σ H (v : V) (u : Value) (Q : VK), Inv X pins σ H s → RelV v u → Ms X.K H v d → Giv X.K H Q nv → wpAny (model X.prog X.w) X.A (call f [u]) (EP X pins σ Q) X.xe s
section
variable {X : Cx} {f : Value} {d : PyData} {nv : NV}
theorem CallN.dc {d' : PyData} (h : ∀ kd : PyData → Prop, kd d' → DCall X f [d] kd) (nl : ∀ ds, d ≠ .list ds) (nd : ∀ kvs, d ≠ .dict kvs) : CallN X f d (.dat d') := fun pins s σ H v u Q I r m g =>
  h (· = d') rfl pins s σ H [v] [u] Q I (.cons r .nil) (.cons ((m.to_mq nl).to_mp nd) .nil) fun v d'' H' ex rp e => g v H' ex (e ▸ rp)
theorem CallN.of {r : List V → Hp → VK → Prop} (hc : CallR X f r) (h : ∀ H v (Q : VK), Ms X.K H v d → Giv X.K H Q nv → r [v] H Q) : CallN X f d nv := fun pins s σ H v u Q I rv m g =>
  hc pins s σ H [v] [u] Q I (.cons rv .nil) (h H v Q m g)
theorem asInts_map : ∀ {ds : List PyData} {ns : List Int}, asInts ds = some ns → ds = ns.map .int
  | [], _, h => by cases h; rfl
  | d :: ds, _, h => by
    cases d with
    | int i =>
      obtain ⟨ns, h1, rfl⟩ := Option.map_eq_some_iff.mp h
      rw [asInts_map h1]
      rfl
    | _ => exact nomatch h
theorem asBools_map : ∀ {ds : List PyData} {ns : List Bool}, asBools ds = some ns → ds = ns.map .bool
  | [], _, h => by cases h; rfl
  | d :: ds, _, h => by
    cases d with
    | bool i =>
      obtain ⟨ns, h1, rfl⟩ := Option.map_eq_some_iff.mp h
      rw [asBools_map h1]
      rfl
    | _ => exact nomatch h
theorem foldl_max (r : List Int) : ∀ i : Int, (r.foldl (fun m n => if m < n then n else m) i ∈ i :: r) ∧ ∀ n ∈ i :: r, n ≤ r.foldl (fun m n => if m < n then n else m) i := by
  induction r with
  | nil => intro i; exact ⟨by simp, by intro n hn; simp at hn; subst hn; exact Int.le_refl _⟩
  | cons j r ih =>
    intro i
    have hk : i ≤ (if i < j then j else i) ∧ j ≤ (if i < j then j else i) ∧ ((if i < j then j else i) = i ∨ (if i < j then j else i) = j) := by
      split
      · exact ⟨by omega, by omega, .inr rfl⟩
      · exact ⟨by omega, by omega, .inl rfl⟩
    rw [List.foldl_cons]
    generalize (if i < j then j else i) = z at hk
    obtain ⟨h1, h2⟩ := ih z
    refine ⟨?_, ?_⟩
    · rcases List.mem_cons.mp h1 with h | h
      · rw [h]
        rcases hk.2.2 with e | e <;> simp [e]
      · exact List.mem_cons_of_mem _ (List.mem_cons_of_mem _ h)
    · intro n hn
      have hm := h2 _ (List.mem_cons_self ..)
      rcases List.mem_cons.mp hn with rfl | hn
      · omega
      rcases List.mem_cons.mp hn with rfl | hn
      · omega
      exact h2 n (List.mem_cons_of_mem _ hn)
theorem max_unique {ns : List Int} {m m' : Int} (h : maxI ns = some m) (h1 : m' ∈ ns) (h2 : ∀ n ∈ ns, n ≤ m') : m' = m := by
  cases ns with
  | nil => exact nomatch h
  | cons i r =>
    cases h
    obtain ⟨a, b⟩ := foldl_max r i
    have := b m' h1
    have := h2 _ a
    omega
theorem bi_snd {fn : Bi} (hc : X.calm = true) (hm : X.A.units + 200 < cLine) (hgd : X.A.guards = some []) (hr : fn ≠ .repr) (h : biF fn [d] = some nv) : CallN X (biV fn) d nv := by
  cases fn with
  | len =>
    unfold biF at h
    simp only at h
    split at h
    · rename_i e; cases e; cases h; exact .dc (fun kd q => DW.dc_len (C := dc X) q rfl) (by intro z e; cases e) (by intro z e; cases e)
    · rename_i xs e; cases e; cases h
      refine .of call_len fun H v Q m g => ?_
      obtain ⟨l, vs, rfl, h1, h2⟩ := m.lst
      exact ⟨_, xs.length, rfl, .inl ⟨vs, h1, h2.length.symm⟩, g _ H (Ex.refl H) (.int _)⟩
    · rename_i z e; cases e
      obtain ⟨h1, rfl⟩ := grd_some h
      exact .dc (fun kd q => DW.dc_len (C := dc X) q ⟨rfl, of_decide_eq_true h1⟩) (by intro z e; cases e) (by intro z e; cases e)
    · exact nomatch h
  | abs =>
    unfold biF at h
    simp only at h
    split at h
    · rename_i e; cases e; cases h; exact .dc (fun kd q => DW.dc_abs (C := dc X) q) (by intro z e; cases e) (by intro z e; cases e)
    · exact nomatch h
  | int =>
    unfold biF at h
    simp only at h
    split at h
    · rename_i e; cases e; cases h; exact .dc (fun kd q => DW.dc_intB (C := dc X) q) (by intro z e; cases e) (by intro z e; cases e)
    · exact nomatch h
  | min =>
    unfold biF at h
    simp only at h
    exact nomatch h
  | max =>
    unfold biF at h
    simp only at h
    split at h
    · rename_i e; cases e
    · rename_i xs e; cases e
      obtain ⟨ns, h1, h⟩ := Option.bind_eq_some_iff.mp h
      obtain ⟨m, h2, rfl⟩ := Option.map_eq_some_iff.mp h
      have hx := asInts_map h1
      subst hx
      refine .of (cr_max hc) fun H v Q ms g => ?_
      obtain ⟨l, vs, rfl, e1, e2⟩ := ms.lst
      rw [e2.ints] at e1
      refine ⟨l, ns, rfl, e1, ?_, fun m' hm' hle => ?_⟩
      · cases ns with
        | nil => exact nomatch h2
        | cons _ _ => simp
      · rw [max_unique h2 hm' hle]
        exact g _ H (Ex.refl H) (.int _)
    · exact nomatch h
  | sum =>
    unfold biF at h
    simp only at h
    split at h
    · rename_i xs e; cases e
      obtain ⟨ns, h1, rfl⟩ := Option.map_eq_some_iff.mp h
      have hx := asInts_map h1
      subst hx
      refine .of (cr_sum hc) fun H v Q ms g => ?_
      obtain ⟨l, vs, rfl, e1, e2⟩ := ms.lst
      rw [e2.ints] at e1
      exact ⟨l, ns, rfl, e1, g _ H (Ex.refl H) (.int _)⟩
    · exact nomatch h
  | all =>
    unfold biF at h
    simp only at h
    split at h
    · rename_i xs e; cases e
      obtain ⟨ns, h1, rfl⟩ := Option.map_eq_some_iff.mp h
      have hx := asBools_map h1
      subst hx
      refine .of (cr_all hc) fun H v Q ms g => ?_
      obtain ⟨l, vs, rfl, e1, e2⟩ := ms.lst
      rw [DW.RpL.bools e2] at e1
      exact ⟨l, ns, rfl, e1, g _ H (Ex.refl H) (.bl _)⟩
    · exact nomatch h
  | any =>
    unfold biF at h
    simp only at h
    split at h
    · rename_i xs e; cases e
      obtain ⟨ns, h1, rfl⟩ := Option.map_eq_some_iff.mp h
      have hx := asBools_map h1
      subst hx
      refine .of (cr_any hc) fun H v Q ms g => ?_
      obtain ⟨l, vs, rfl, e1, e2⟩ := ms.lst
      rw [DW.RpL.bools e2] at e1
      exact ⟨l, ns, rfl, e1, g _ H (Ex.refl H) (.bl _)⟩
    · exact nomatch h
  | tuple =>
    unfold biF at h
    simp only at h
    split at h
    · rename_i e; cases e; cases h; exact .dc (fun kd q => DW.dc_tupT (C := dc X) q) (by intro z e; cases e) (by intro z e; cases e)
    · rename_i xs e; cases e; cases h
      refine .of call_tuple_of fun H v Q m g => ?_
      obtain ⟨l, vs, rfl, h1, h2⟩ := m.lst
      refine ⟨l, vs, rfl, .inl ⟨h1, fun p np => ?_⟩⟩
      have ex : Ex H (upd H p (.tup vs)) := Ex.new np
      exact g _ _ ex (Rp.tup (SqT.of upd_same) (h2.kt ex.kt))
    · exact nomatch h
  | list =>
    unfold biF at h
    simp only at h
    split at h
    · rename_i xs e; cases e; cases h
      refine .of call_list_of fun H v Q m g => ?_
      obtain ⟨l, vs, rfl, h1, h2⟩ := ((m.to_mq (by intro z e; cases e)).to_mp (by intro z e; cases e)).tup
      refine ⟨l, vs, rfl, .inr h1, fun p np => ?_⟩
      have ex : Ex H (upd H p (.lst vs)) := Ex.new np
      exact g p vs _ np ex upd_same (h2.kt ex.kt)
    · rename_i xs e; cases e; cases h
      refine .of call_list_of fun H v Q m g => ?_
      obtain ⟨l, vs, rfl, h1, h2⟩ := m.lst
      refine ⟨l, vs, rfl, .inl h1, fun p np => ?_⟩
      have ex : Ex H (upd H p (.lst vs)) := Ex.new np
      exact g p vs _ np ex upd_same (h2.kt ex.kt)
    · rename_i kvs e; cases e; cases h
      refine .of (call_listD hc) fun H v Q m g => ?_
      obtain ⟨l, vs, rfl, h1, h2⟩ := dic_rd (m.to_mq (by intro z e; cases e))
      refine ⟨l, vs, rfl, h1, fun p np => ?_⟩
      exact g p _ _ np (Ex.new np) upd_same h2.keys
    · exact nomatch h
  | dict =>
    unfold biF at h
    simp only at h
    split at h <;> cases h
  | repr => exact absurd rfl hr
theorem rep_snd (hm : X.A.units + 200 < cLine) (hgd : X.A.guards = some []) (h : biF .repr [d] = some nv) {pins s σ H} {v : V} {u : Value} {Q : VK} (I : Inv X pins σ H s) (r : RelV v u) (mp : Mp X.K H v d) (g : Giv X.K H Q nv) : wpAny (model X.prog X.w) X.A (call (.builtin "repr") [u]) (EP X pins σ Q) X.xe s := by
    unfold biF at h
    simp only at h
    obtain ⟨h1, rfl⟩ := grd_some h
    rw [Bool.and_eq_true, Bool.and_eq_true, Bool.and_eq_true] at h1
    obtain ⟨⟨⟨a1, a2⟩, a3⟩, a4⟩ := h1
    have hd : d.hasDict = false ∨ DW.noList d = true := by
      rcases Bool.or_eq_true .. ▸ a2 with z | z
      · exact .inl (by simpa using z)
      · exact .inr z
    have a4 := of_decide_eq_true a4
    exact DW.dc_repr (C := dc X) (kd := fun d' => d' = .str d.shown) hgd (by show X.A.units + (d.depth + 1) < cLine; omega) a1 hd (of_decide_eq_true a3) rfl pins s σ H [v] [u] Q I (.cons r .nil) (.cons mp .nil) fun v d' H' ex rp e => g v H' ex (e ▸ rp)
end
end SN
namespace SN
open PySem L2 NV
open DW (KT Ex Rp RpL WE WT WA WS WB Mp MpL DOp DOpL DCall DCallL WW DIx)
section
variable {C : Cn} {ρ : Rho} {σ : St} {H : Hp} {v : V} {nv : NV} {d : PyData} {e a b c : Expr} {es : List Expr} {pos p p2 : Pos} {fa fb fc : Rho → R NV}
theorem bi_ali {f : Bi} {ds : List PyData} (h : biF f ds = some nv) : ∀ i, nv ≠ .ali i := by
  rintro i rfl
  have gr : ∀ (b : Bool) (v : NV), grd b v = some (.ali i) → v = .ali i := fun b v h => (grd_some h).2
  unfold biF at h
  repeat' split at h
  all_goals first
    | (cases h; done)
    | (have h := gr _ _ h; cases h; done)
    | (obtain ⟨_, _, h⟩ := Option.map_eq_some_iff.mp h; cases h; done)
    | (obtain ⟨_, _, h⟩ := Option.bind_eq_some_iff.mp h; obtain ⟨_, _, h⟩ := Option.map_eq_some_iff.mp h; cases h; done)
/-- the call of a built-in by its name, whatever it is -/
theorem pe_bi {f : Bi} {t : TA} (hg : Gl C.X (biS f)) (hm : C.X.mg (biS f) = none) (ha : PA C.X (e :: es) t)
    (he : starEach (e :: es) C.X.env = (false, eval e C.X.env) :: starEach es C.X.env) (hpl : (backTo pos (starEach es C.X.env)).any (·.1) = false) :
    PE C.X (.Call (.Name (biS f) p) (e :: es) [] pos) fun σ H Q => t σ H fun vs H1 => ∀ pins s σ (us : List Value), Inv C.X pins σ H1 s → Vals vs us → wpAny (model C.X.prog C.X.w) C.X.A (call (biV f) us) (EP C.X pins σ Q) C.X.xe s := by
  have hc : CallR C.X (biV f) (fun xs H Q => ∀ pins s σ (us : List Value), Inv C.X pins σ H s → Vals xs us → wpAny (model C.X.prog C.X.w) C.X.A (call (biV f) us) (EP C.X pins σ Q) C.X.xe s) :=
    fun pins s σ H xs us Q I rv z => z pins s σ us I rv
  have hb := bi_boot f
  have hn := bi_name f
  cases f with
  | len => exact pe_callB hc hg hm hb ha hn.1 hn.2 he hpl
  | abs => exact pe_callB hc hg hm hb ha hn.1 hn.2 he hpl
  | int => exact pe_callTy hc hg hm hb ha hn.1 hn.2 he hpl
  | min => exact pe_callB hc hg hm hb ha hn.1 hn.2 he hpl
  | max => exact pe_callB hc hg hm hb ha hn.1 hn.2 he hpl
  | sum => exact pe_callB hc hg hm hb ha hn.1 hn.2 he hpl
  | all => exact pe_callB hc hg hm hb ha hn.1 hn.2 he hpl
  | any => exact pe_callB hc hg hm hb ha hn.1 hn.2 he hpl
  | tuple => exact pe_callTy hc hg hm hb ha hn.1 hn.2 he hpl
  | list => exact pe_callTy hc hg hm hb ha hn.1 hn.2 he hpl
  | dict => exact pe_callTy hc hg hm hb ha hn.1 hn.2 he hpl
  | repr => exact pe_callB hc hg hm hb ha hn.1 hn.2 he hpl
theorem NvOk.mpR (r : C.Rs ρ σ H) (h : NvOk C.b ρ σ H v nv) (e : nv.dataR ρ = some d) : Mp C.X.K H v d := by
  cases nv with
  | dat d' => cases e; exact .rp h
  | lst ds =>
    cases e
    obtain ⟨p, vs, rfl, _, h1, h2⟩ := h
    exact .own h1 h2
  | dic kvs => exact nomatch e
  | ali i =>
    unfold NV.dataR at e
    simp only at e
    split at e
    · rename_i b ds hs
      cases e
      obtain ⟨l, vs, h1, h2, h3, _⟩ := r.own hs
      rw [h.1] at h1
      cases h1
      exact .own h2 h3
    · exact nomatch e
theorem se_bi1 {f : Bi} (hc : C.X.calm = true) (hm : C.X.A.units + 200 < cLine) (hgd : C.X.A.guards = some []) (h : SE C a fa) (hg : Gl C.X (biS f)) (hmg : C.X.mg (biS f) = none) (he : starEach [a] C.X.env = (false, eval a C.X.env) :: starEach [] C.X.env) :
    SE C (.Call (.Name (biS f) p) [a] [] pos) fun ρ => R.bind (R.bind (fa ρ) fun v ρ => R.opt (v.dataB f ρ) fun d => .ok [d] ρ) fun ds ρ => R.opt (biF f ds) fun v => .ok v ρ := fun ρ k q σ H Q r g => by
  refine WE.of (pe_bi hg hmg (pa_cons WE.pe pa_nil he) he (by rfl)) ?_
  show WE C.X a σ H _
  rw [W_bind, W_bind] at q
  refine h ρ _ q σ H _ r fun v nv ρ1 H1 k1 r1 o1 h1 => ?_
  simp only [W_opt] at h1
  obtain ⟨d, ed, h1⟩ := h1
  have h1 : W (R.opt (biF f [d]) fun v => .ok v ρ1) k C.kx := h1
  rw [W_opt] at h1
  obtain ⟨w, ew, h1⟩ := h1
  show ∀ pins s σ (us : List Value), Inv C.X pins σ H1 s → Vals [v] us → _
  intro pins s σ' us I rv
  obtain ⟨u, rfl, ru⟩ := rv.one
  have gv : Giv C.X.K H1 Q w := NvOk.of_giv (H' := H1) r1 (bi_ali ew) fun v H' ex ok => g v w ρ1 H' (k1.trans ex.kt) (r1.ex ex) ok h1
  by_cases hr : f = .repr
  · subst hr
    exact rep_snd hm hgd ew I ru (o1.mpR r1 ed) gv
  · have ed' : nv.data1 ρ1 = some d := by
      cases f <;> first | exact ed | exact absurd rfl hr
    exact bi_snd hc hm hgd hr ew pins s σ' H1 v u Q I ru (o1.ms r1 ed') gv
theorem se_bi2 {f : Bi} (hc : C.X.calm = true) {fs : Rho → R (List PyData)} (h : SA C [a, b] fs) (hg : Gl C.X (biS f)) (hmg : C.X.mg (biS f) = none) (he : starEach [a, b] C.X.env = (false, eval a C.X.env) :: starEach [b] C.X.env) (hpl : (backTo pos (starEach [b] C.X.env)).any (·.1) = false) :
    SE C (.Call (.Name (biS f) p) [a, b] [] pos) fun ρ => R.bind (fs ρ) fun ds ρ => R.chk (decide (ds.length = 2)) (R.opt (biF f ds) fun v => .ok v ρ) := fun ρ k q σ H Q r g => by
  refine WE.of (pe_bi hg hmg WA.pa he hpl) ?_
  show WA C.X [a, b] σ H _
  rw [W_bind] at q
  refine h ρ _ q σ H _ r fun vs ds ρ1 H1 k1 r1 o1 h1 => ?_
  simp only [W_chk, W_opt] at h1
  obtain ⟨hl, w, ew, h1⟩ := h1
  have hl := of_decide_eq_true hl
  intro pins s σ' us I rv
  have gv : Giv C.X.K H1 Q w := NvOk.of_giv (H' := H1) r1 (bi_ali ew) fun v H' ex ok => g v w ρ1 H' (k1.trans ex.kt) (r1.ex ex) ok h1
  match ds, hl with
  | [x, y], _ =>
    cases o1 with
    | cons o1 t =>
    cases t with
    | cons o2 t =>
    cases t
    rename_i v1 v2
    have mpl : MpL C.X.K H1 [v1, v2] [x, y] := .cons (.rp o1) (.cons (.rp o2) .nil)
    cases f with
    | min =>
      unfold biF at ew
      simp only at ew
      split at ew
      · rename_i i j e
        cases e
        cases ew
        exact DW.dc_min2 (C := dc C.X) (kd := fun d' => d' = .int (if j < i then j else i)) hc rfl pins s σ' H1 _ us Q I rv mpl fun v d' H' ex rp e => gv v H' ex (e ▸ rp)
      · exact nomatch ew
    | max =>
      unfold biF at ew
      simp only at ew
      split at ew
      · rename_i i j e
        cases e
        cases ew
        exact DW.dc_max2 (C := dc C.X) (kd := fun d' => d' = .int (if j > i then j else i)) hc rfl pins s σ' H1 _ us Q I rv mpl fun v d' H' ex rp e => gv v H' ex (e ▸ rp)
      · rename_i e; cases e
      · exact nomatch ew
    | _ =>
      unfold biF at ew
      simp only at ew
      first | exact nomatch ew | (split at ew <;> first | exact nomatch ew | (rename_i e; cases e))
end
end SN
namespace SN
open PySem L2 NV
open DW (KT Ex Rp RpL WE WT WA WS WB Mp MpL DOp DOpL DCall DCallL WW DIx WI Wk)
/-- list, tuple or text, as they come -/
def iAny (K : PySem.W.Frag) (tl : TE) : TI := fun σ H R => tl σ H fun x H1 => (∃ a, x = .ref a ∧ (∃ xs, SqL K H1 a xs) ∧ R (Itl K a) H1) ∨ (∃ a, x = .ref a ∧ (∃ xs, SqT K H1 a xs) ∧ R (Itt K a) H1) ∨ ∃ z, x = .str z ∧ R (Its z) H1
theorem pi_any {X : Cx} {tg l : Expr} {tl : TE} (hl : PE X l tl) : PI X tg l (iAny X.K tl) := by
  refine ⟨fun pins s σ H R I h => ?_⟩
  refine thn (hl.run pins s σ H _ I h) fun v s1 ⟨x, H1, I1, r1, q1⟩ => ?_
  rcases q1 with ⟨a, e, ⟨xs, hq⟩, q⟩ | ⟨a, e, ⟨xs, hq⟩, q⟩ | ⟨z, e, q⟩
  · subst e
    cases r1
    obtain ⟨its, rv, p, hz⟩ := I1.list hq
    refine wpAny_pyIter_list p.isList ?_
    refine ⟨s1.heap.objs.size, [s1.heap.objs.size], _, _, H1, rfl, I1.kept (t' := s1.toks) fun b o e => Heap.get?_push_of_some _ e, turn_list a _, ⟨_, Heap.get?_push_size _ rfl, rfl, rfl⟩, fun b hb => ?_, q⟩
    have e : b = s1.heap.objs.size := by simpa using hb
    subst e
    exact I1.fpOk (Nat.le_refl _) (I1.hok.fresh (Nat.le_refl _))
  · subst e
    cases r1
    obtain ⟨its, rv, p, hz⟩ := I1.tuple hq
    refine wpAny_pyIter_tuple (show s1.heap.IsTuple a its.toArray from p) ?_
    refine ⟨s1.heap.objs.size, [s1.heap.objs.size], _, _, H1, rfl, I1.kept (t' := s1.toks) fun b o e => Heap.get?_push_of_some _ e, turn_tuple a _, ⟨_, Heap.get?_push_size _ rfl, rfl, rfl⟩, fun b hb => ?_, q⟩
    have e : b = s1.heap.objs.size := by simpa using hb
    subst e
    exact I1.fpOk (Nat.le_refl _) (I1.hok.fresh (Nat.le_refl _))
  · subst e
    obtain ⟨t, rfl⟩ := r1
    cases ha : z.cps.all (· < 128)
    · exact wpAny_pyIter_wide ha (pi_one (tk := s1.toks) I1 _ (turn_str _ z t "str_iterator" (.inr rfl)) ⟨_, Heap.get?_push_size _ rfl, rfl, rfl⟩ q)
    · exact wpAny_pyIter_ascii ha (pi_one (tk := s1.toks) I1 _ (turn_str _ z t "str_ascii_iterator" (.inl rfl)) ⟨_, Heap.get?_push_size _ rfl, rfl, rfl⟩ q)
section
variable {C : Cn} {ρ : Rho} {σ : St} {H : Hp} {v : V} {nv : NV} {d : PyData} {e a b c tg iter : Expr} {es : List Expr} {pos p p2 : Pos} {fa fb fc : Rho → R NV}
def DI (C : Cn) (ρ : Rho) (tg iter : Expr) (k : List PyData → Rho → Prop) : Prop :=
  ∀ σ H (R : L2.It → Hp → Prop), C.Rs ρ σ H → (∀ J ds ρ' H', KT H H' → C.Rs ρ' σ H' → Wk C.X.K H' J ds → k ds ρ' → R J H') → WI C.X tg iter σ H R
def SI (C : Cn) (tg iter : Expr) (f : Rho → R (List PyData)) : Prop := ∀ ρ k, W (f ρ) k C.kx → DI C ρ tg iter k
theorem wk_tup {K : PySem.W.Frag} {l : Addr} {vs : List V} {ds : List PyData} (e1 : SqT K H l vs) (e2 : RpL K H vs ds) : Wk K H (Itt K l) ds := by
  refine ⟨fun H2 i k2 hi => ?_, fun H2 i x H3 k2 hy => ?_, fun H2 k2 => ⟨vs, DW.sqt_kt k2 e1, by rw [e2.length]; exact Nat.le_refl _⟩⟩
  · have hi' : i < vs.length := by rw [e2.length]; exact hi
    exact ⟨vs, vs[i], DW.sqt_kt k2 e1, List.getElem?_eq_getElem hi'⟩
  · obtain ⟨rfl, hy⟩ := hy
    refine ⟨Ex.refl _, fun d hd => ?_⟩
    obtain ⟨v, hv, rv⟩ := e2.getD hd
    have := hy vs (DW.sqt_kt k2 e1)
    rw [hv] at this
    cases this
    exact rv.kt k2
theorem wk_lst {K : PySem.W.Frag} {l : Addr} {vs : List V} {ds : List PyData} (e1 : DW.SqF K H l vs) (e2 : RpL K H vs ds) : Wk K H (Itl K l) ds := by
  refine ⟨fun H2 i k2 hi => ?_, fun H2 i x H3 k2 hy => ?_, fun H2 k2 => ⟨vs, (e1.kt k2).l, by rw [e2.length]; exact Nat.le_refl _⟩⟩
  · have hi' : i < vs.length := by rw [e2.length]; exact hi
    exact ⟨vs, vs[i], (e1.kt k2).l, List.getElem?_eq_getElem hi'⟩
  · obtain ⟨rfl, hy⟩ := hy
    refine ⟨Ex.refl _, fun d hd => ?_⟩
    obtain ⟨v, hv, rv⟩ := e2.getD hd
    have := hy vs (e1.kt k2).l
    rw [hv] at this
    cases this
    exact rv.kt k2
theorem wk_str {K : PySem.W.Frag} (x : Str) : Wk K H (Its x) (x.cps.toList.map fun c => .str ⟨#[c]⟩) := by
  refine ⟨fun H2 i k2 hi => ?_, fun H2 i y H3 k2 hy => ?_, fun H2 k2 => ?_⟩
  · rw [List.length_map, Array.length_toList] at hi
    exact hi
  · obtain ⟨rfl, c, hc, rfl⟩ := hy
    refine ⟨Ex.refl _, fun d hd => ?_⟩
    rw [List.getElem?_map, Array.getElem?_toList, hc] at hd
    cases hd
    exact .str _
  · rw [List.length_map, Array.length_toList]
    exact Nat.le_refl _
theorem si_dat (h : SE C iter fa) : SI C tg iter fun ρ => R.bind (fa ρ) fun v ρ => R.bind (esc v ρ) fun d ρ => R.opt (iterF d) fun ds => .ok ds ρ := fun ρ k q σ H R' r g => by
  refine WI.of (pi_any WE.pe) ?_
  show WE C.X iter σ H _
  refine h.esc (k := fun d ρ => W (R.opt (iterF d) fun ds => .ok ds ρ) k C.kx) ?_ σ H _ r fun v d ρ1 H1 k1 r1 o1 h1 => ?_
  · rw [W_bind] at q ⊢
    exact q.mono (fun x ρ h => by rw [W_bind] at h; exact h) fun _ _ h => h
  simp only [W_opt] at h1
  obtain ⟨ds, ed, h1⟩ := h1
  cases d with
  | tuple xs =>
    cases ed
    obtain ⟨l, vs, rfl, e1, e2⟩ := (Mp.rp o1).tup
    exact .inr (.inl ⟨l, rfl, ⟨vs, e1⟩, g _ ds ρ1 H1 k1 r1 (wk_tup e1 e2) h1⟩)
  | list xs =>
    cases ed
    cases o1 with
    | lst e1 e2 => exact .inl ⟨_, rfl, ⟨_, e1.l⟩, g _ ds ρ1 H1 k1 r1 (wk_lst e1 e2) h1⟩
  | str x =>
    cases ed
    cases (Mp.rp o1).str
    exact .inr (.inr ⟨x, rfl, g _ _ ρ1 H1 k1 r1 (wk_str x) h1⟩)
  | _ => exact nomatch ed
/-! ### range, zip, enumerate -/
theorem small_iff {i : Int} (h : small i = true) : -(2 ^ 62) ≤ i ∧ i < 2 ^ 62 := of_decide_eq_true h
theorem si_rng1 {pr : Pos} (h : SE C a fa) (hm : C.X.mg "range" = none) (hg : Gl C.X "range") (hs : starEach [a] C.X.env = [(false, eval a C.X.env)]) :
    SI C tg (.Call (.Name "range" p) [a] [] pr) fun ρ => R.bind (R.bind (fa ρ) fun v ρ => R.opt (v.dataB .len ρ) fun d => .ok [d] ρ) fun ds ρ => R.opt (itF .range ds) fun v => .ok v ρ := fun ρ k q σ H R' r g => by
  refine WI.of (pi_range1 hg hm (pa_cons WE.pe pa_nil hs) hs) ?_
  show WE C.X a σ H _
  rw [W_bind, W_bind] at q
  refine h ρ _ q σ H _ r fun v nv ρ1 H1 k1 r1 o1 h1 => ?_
  simp only [W_opt] at h1
  obtain ⟨d, ed, h1⟩ := h1
  have h1 : W (R.opt (itF .range [d]) fun v => .ok v ρ1) k C.kx := h1
  rw [W_opt] at h1
  obtain ⟨ds, es, h1⟩ := h1
  have ms := o1.ms r1 ed
  unfold itF at es
  simp only at es
  split at es
  · rename_i n e
    cases e
    split at es
    · rename_i hn
      cases es
      have hn := small_iff hn
      cases ((ms.to_mq (by intro z e; cases e)).to_mp (by intro z e; cases e)).int
      exact ⟨n, rfl, hn.1, hn.2, g _ _ ρ1 H1 k1 r1 (DW.wk_range 0 _) h1⟩
    · exact nomatch es
  · rename_i e; cases e
  · rename_i e; cases e
  · exact nomatch es
theorem si_rng2 {pr : Pos} {fs : Rho → R (List PyData)} (h : SA C [a, b] fs) (hm : C.X.mg "range" = none) (hg : Gl C.X "range") (hs : starEach [a, b] C.X.env = [(false, eval a C.X.env), (false, eval b C.X.env)]) (hs2 : starEach [b] C.X.env = [(false, eval b C.X.env)]) :
    SI C tg (.Call (.Name "range" p) [a, b] [] pr) fun ρ => R.bind (fs ρ) fun ds ρ => R.chk (decide (ds.length = 2)) (R.opt (itF .range ds) fun v => .ok v ρ) := fun ρ k q σ H R' r g => by
  refine WI.of (pi_range2 hg hm WA.pa hs hs2) ?_
  show WA C.X [a, b] σ H _
  rw [W_bind] at q
  refine h ρ _ q σ H _ r fun vs ds ρ1 H1 k1 r1 o1 h1 => ?_
  simp only [W_chk, W_opt] at h1
  obtain ⟨hl, zs, es, h1⟩ := h1
  unfold itF at es
  simp only at es
  split at es
  · exact nomatch (of_decide_eq_true hl : (1 : Nat) = 2)
  · rename_i lo hi
    split at es
    · rename_i hn
      cases es
      rw [Bool.and_eq_true] at hn
      have h2 := small_iff hn.1
      have h3 := small_iff hn.2
      have e : vs = [.int lo, .int hi] := RpL.ints (ns := [lo, hi]) o1
      subst e
      exact ⟨lo, hi, rfl, ⟨h2.1, h2.2, h3.1, h3.2⟩, g _ _ ρ1 H1 k1 r1 (DW.wk_range lo _) h1⟩
    · exact nomatch es
  · exact nomatch (of_decide_eq_true hl : (3 : Nat) = 2)
  · exact nomatch es
theorem si_rng3 {pr : Pos} {fs : Rho → R (List PyData)} (h : SA C [a, b, c] fs) (hm : C.X.mg "range" = none) (hg : Gl C.X "range") (hs : starEach [a, b, c] C.X.env = (false, eval a C.X.env) :: starEach [b, c] C.X.env) (hpl : (backTo pr (starEach [b, c] C.X.env)).any (·.1) = false) :
    SI C tg (.Call (.Name "range" p) [a, b, c] [] pr) fun ρ => R.bind (fs ρ) fun ds ρ => R.chk (decide (ds.length = 3)) (R.opt (itF .range ds) fun v => .ok v ρ) := fun ρ k q σ H R' r g => by
  refine WI.of (pi_range3 hg hm WA.pa hs hpl) ?_
  show WA C.X [a, b, c] σ H _
  rw [W_bind] at q
  refine h ρ _ q σ H _ r fun vs ds ρ1 H1 k1 r1 o1 h1 => ?_
  simp only [W_chk, W_opt] at h1
  obtain ⟨hl, zs, es, h1⟩ := h1
  unfold itF at es
  simp only at es
  split at es
  · exact nomatch (of_decide_eq_true hl : (1 : Nat) = 3)
  · exact nomatch (of_decide_eq_true hl : (2 : Nat) = 3)
  · rename_i lo hi st
    split at es
    · rename_i hn
      cases es
      rw [Bool.and_eq_true, Bool.and_eq_true] at hn
      have h2 := small_iff hn.1.1
      have h3 := small_iff hn.1.2
      have h4 := of_decide_eq_true hn.2
      subst h4
      have e : vs = [.int lo, .int hi, .int (-1)] := RpL.ints (ns := [lo, hi, -1]) o1
      subst e
      exact ⟨lo, hi, -1, _, rfl, RgC.neg h2.1 h2.2 h3.1 h3.2, g _ _ ρ1 H1 k1 r1 (DW.wk_down lo _) h1⟩
    · exact nomatch es
  · exact nomatch es
end
end SN
namespace SN
open PySem L2 NV
open DW (KT Ex Rp RpL WE WT WA WS WB Mp MpL DOp DOpL DCall DCallL WW DIx WI Wk pin pin_same pin_ne)
/-! ### a thing in the making, that no slot knows -/
section
variable {C : Cb} {ρ : Rho} {σ : St} {H : Hp} {q : Addr} {o : HO}
abbrev Cb.pin (C : Cb) (q : Addr) (o : HO) : Cb := { C with H0 := DW.pin C.H0 q o }
theorem SlotOk.to {C C' : Cb} {i : Nat} {v : Option V} {sv : SV} (hK : C.K = C'.K) (hB : C.B = C'.B) (hE : C.ex = C'.ex) (h : SlotOk C H i v sv) (h0 : ∀ l, isOwn sv = true → v = some (.ref l) → C.H0 l = none → C'.H0 l = none) : SlotOk C' H i v sv := by
  obtain ⟨K, H0, B, ex, Hk⟩ := C
  obtain ⟨K', H0', B', ex', Hk'⟩ := C'
  cases hK
  cases hB
  cases hE
  cases sv with
  | own b ds =>
    obtain ⟨l, h1, h2, h3, h4⟩ := h
    exact ⟨l, h1, h2, fun e => h0 l rfl h1 (h3 e), h4⟩
  | dic b ds =>
    obtain ⟨l, h1, h2, h3, h4⟩ := h
    exact ⟨l, h1, h2, fun e => h0 l rfl h1 (h3 e), h4⟩
  | _ => exact h
theorem rs_pin (r : Rs C ρ σ H) (n : New C ρ σ q) (hq : H q = some o) (nt : ∀ xs, o ≠ .tup xs) (nf : ∀ a b, o ≠ .frz a b) : Rs (C.pin q o) ρ σ H := by
  refine ⟨⟨fun b u h hd => ?_, r.fr.kt⟩, r.len, fun i sv h => SlotOk.to (C := C) (C' := C.pin q o) rfl rfl rfl (r.sl i sv h) fun l ho e z => ?_, r.sep, fun i l h => ?_⟩
  · by_cases hb : b = q
    · subst hb
      rw [show (C.pin b o).H0 = DW.pin C.H0 b o from rfl, pin_same] at h
      cases h
      exact hq
    · rw [show (C.pin q o).H0 = DW.pin C.H0 q o from rfl, pin_ne hb] at h
      exact r.fr.ext b u h hd
  · have hl : l ≠ q := fun e' => by
      subst e'
      exact n.s i sv h ho (r.val h e)
    rw [show (C.pin q o).H0 = DW.pin C.H0 q o from rfl, pin_ne hl]
    exact z
  · obtain ⟨h1, u, h2⟩ := r.bo i l h
    refine ⟨h1, ?_⟩
    by_cases hb : l = q
    · subst hb
      exact ⟨o, pin_same⟩
    · exact ⟨u, by rw [show (C.pin q o).H0 = DW.pin C.H0 q o from rfl, pin_ne hb]; exact h2⟩
theorem rs_unpin (r : Rs (C.pin q o) ρ σ H) (n1 : C.H0 q = none) (hB : some q ∉ C.B) : Rs C ρ σ H ∧ H q = some o ∧ New C ρ σ q := by
  have hne : ∀ b u, C.H0 b = some u → b ≠ q := fun b u h z => by rw [z, n1] at h; cases h
  have h0 : (C.pin q o).H0 = DW.pin C.H0 q o := rfl
  have hq : H q = some o := r.fr.ext q o (by rw [h0]; exact pin_same) hB
  have own_ne : ∀ (i : Nat) (sv : SV) (l : Addr), ρ[i]? = some sv → isOwn sv = true → σ[i]? = some (some (V.ref l)) → l ≠ q := fun i sv l h ho e z => by
    subst z
    obtain ⟨l', o', e1, _, _, e4⟩ := r.owned h ho
    rw [e] at e1
    cases e1
    rcases e4 with e4 | e4
    · rw [h0, pin_same] at e4; cases e4
    · exact hB e4
  refine ⟨⟨⟨fun b u h hd => r.fr.ext b u (by rw [h0, pin_ne (hne b u h)]; exact h) hd, r.fr.kt⟩, r.len, fun i sv h => SlotOk.to (C := C.pin q o) (C' := C) rfl rfl rfl (r.sl i sv h) fun l ho e z => ?_, r.sep, fun i l h => ?_⟩, hq, n1, fun i sv h ho e => own_ne i sv q h ho e rfl⟩
  · rw [h0, pin_ne (own_ne i sv l h ho (r.val h e))] at z
    exact z
  · obtain ⟨h1, u, h2⟩ := r.bo i l h
    refine ⟨h1, u, ?_⟩
    have hl : l ≠ q := fun z => by
      subst z
      exact hB (List.mem_of_getElem? h)
    rw [h0, pin_ne hl] at h2
    exact h2
theorem New.notB (r : Rs C ρ σ H) (n : New C ρ σ q) : some q ∉ C.B := fun h => by
  obtain ⟨i, hi⟩ := List.getElem?_of_mem h
  obtain ⟨_, u, hu⟩ := r.bo i q hi
  rw [n.e] at hu
  cases hu
end
end SN
namespace SN
open PySem L2 NV
open DW (KT Ex Rp RpL WE WT WA WS WB Mp MpL DOp DOpL DCall DCallL WW DIx WI Wk pin pin_same pin_ne)
/-! ### slots of which nothing is known -/
section
variable {C : Cb} {ρ : Rho} {σ τ : St} {H : Hp} {q : Addr} {o : HO} {is : List Nat}
theorem allNo_get (h : allNo is ρ = true) {j : Nat} (hj : j ∈ is) : ρ[j]? = some .no := by
  unfold allNo at h
  have := List.all_eq_true.mp h j hj
  split at this
  · assumption
  · exact nomatch this
theorem wipe_ne {j : Nat} : ∀ {is : List Nat}, j ∉ is → (wipe σ is)[j]? = σ[j]?
  | [], _ => rfl
  | i :: is, h => by
    rw [List.mem_cons, not_or] at h
    show ((wipe σ is).set i none)[j]? = _
    rw [List.getElem?_set_ne (Ne.symm h.1), wipe_ne h.2]
theorem wipe_set (i : Nat) : ∀ is : List Nat, wipe (σ.set i none) is = (wipe σ is).set i none
  | [] => rfl
  | j :: is => by
    show (wipe (σ.set i none) is).set j none = ((wipe σ is).set j none).set i none
    rw [wipe_set i is]
    by_cases h : i = j
    · subst h; rw [List.set_set]
    · rw [List.set_comm _ _ h]
theorem wipe_in (σ : St) {i : Nat} : ∀ {is : List Nat}, i ∈ is → (wipe σ is).set i none = wipe σ is
  | j :: is, h => by
    show ((wipe σ is).set j none).set i none = (wipe σ is).set j none
    by_cases e : i = j
    · subst e; rw [List.set_set]
    · rcases List.mem_cons.mp h with h | h
      · exact absurd h e
      · rw [List.set_comm _ _ (Ne.symm e), wipe_in σ h]
theorem wipe_wipe (σ : St) (is : List Nat) : wipe (wipe σ is) is = wipe σ is := by
  have h : ∀ js : List Nat, (∀ j ∈ js, j ∈ is) → wipe (wipe σ is) js = wipe σ is := by
    intro js
    induction js with
    | nil => intro _; rfl
    | cons j js ih =>
      intro hj
      show (wipe (wipe σ is) js).set j none = _
      rw [ih fun k hk => hj k (List.mem_cons_of_mem _ hk), wipe_in σ (hj j (List.mem_cons_self ..))]
  exact h is fun _ h => h
theorem unset_len (is : List Nat) (ρ : Rho) : (unset is ρ).length = ρ.length := by
  unfold unset
  induction is generalizing ρ with
  | nil => rfl
  | cons i is ih => rw [List.foldl_cons, ih, List.length_set]
theorem unset_get {j : Nat} {sv : SV} : ∀ {is : List Nat} {ρ : Rho}, (unset is ρ)[j]? = some sv → (sv = .no ∧ j ∈ is) ∨ ρ[j]? = some sv
  | [], ρ, h => .inr h
  | i :: is, ρ, h => by
    have h : (unset is (ρ.set i .no))[j]? = some sv := h
    rcases unset_get h with ⟨h1, h2⟩ | h1
    · exact .inl ⟨h1, List.mem_cons_of_mem _ h2⟩
    · rcases get_set h1 with ⟨rfl, h3, _⟩ | ⟨_, h3⟩
      · exact .inl ⟨h3, List.mem_cons_self ..⟩
      · exact .inr h3
theorem unset_ne {j : Nat} : ∀ {is : List Nat} {ρ : Rho}, j ∉ is → (unset is ρ)[j]? = ρ[j]?
  | [], ρ, _ => rfl
  | i :: is, ρ, h => by
    rw [List.mem_cons, not_or] at h
    show (unset is (ρ.set i .no))[j]? = _
    rw [unset_ne h.2, List.getElem?_set_ne (Ne.symm h.1)]
theorem unset_in {j : Nat} : ∀ {is : List Nat} {ρ : Rho}, j ∈ is → j < ρ.length → (unset is ρ)[j]? = some .no
  | i :: is, ρ, h, hl => by
    show (unset is (ρ.set i .no))[j]? = _
    by_cases hj : j ∈ is
    · exact unset_in hj (by rw [List.length_set]; exact hl)
    · rcases List.mem_cons.mp h with rfl | h
      · rw [unset_ne hj, List.getElem?_set_self hl]
      · exact absurd h hj
theorem noB (h : allNo is ρ = true) (r : Rs C ρ σ H) {j : Nat} (hj : j ∈ is) (l : Addr) : C.B[j]? ≠ some (some l) := fun e => by
  obtain ⟨⟨sv, h1, h2⟩, _⟩ := r.bo j l e
  rw [allNo_get h hj] at h1
  cases h1
  cases h2
/-- other slots, where nothing is known -/
theorem Rs.agree (r : Rs C ρ σ H) (hl : τ.length = σ.length) (he : ∀ (i : Nat) (sv : SV), ρ[i]? = some sv → sv = .no ∨ τ[i]? = σ[i]?) : Rs C ρ τ H := by
  refine ⟨r.fr, by rw [hl]; exact r.len, fun i sv h => ?_, fun i j si sj l h1 h2 o1 o2 e1 e2 => ?_, r.bo⟩
  · rcases he i sv h with rfl | e
    · exact True.intro
    · rw [e]; exact r.sl i sv h
  · rcases he i si h1 with rfl | e
    · cases o1
    rcases he j sj h2 with rfl | e'
    · cases o2
    rw [e] at e1
    rw [e'] at e2
    exact r.sep i j si sj l h1 h2 o1 o2 e1 e2
theorem Rs.wipe (r : Rs C ρ σ H) (h : allNo is ρ = true) : Rs C ρ (wipe σ is) H := r.agree (wipe_length σ is) fun i sv hi => by
  by_cases hj : i ∈ is
  · rw [allNo_get h hj] at hi
    cases hi
    exact .inl rfl
  · exact .inr (wipe_ne hj)
theorem Rs.unset (r : Rs C ρ τ H) (hb : ∀ j ∈ is, ∀ l, C.B[j]? ≠ some (some l)) (hl : σ.length = τ.length) (hw : L2.wipe τ is = L2.wipe σ is) : Rs C (NV.unset is ρ) σ H := by
  have he : ∀ i, i ∉ is → σ[i]? = τ[i]? := fun i hi => by rw [← wipe_ne (σ := σ) hi, ← hw, wipe_ne hi]
  refine ⟨r.fr, by rw [unset_len, hl]; exact r.len, fun i sv h => ?_, fun i j si sj l h1 h2 o1 o2 e1 e2 => ?_, fun i l h => ?_⟩
  · by_cases hi : i ∈ is
    · rcases unset_get h with ⟨rfl, _⟩ | h'
      · exact True.intro
      · have : i < ρ.length := (List.getElem?_eq_some_iff.mp h').1
        rw [unset_in hi this] at h
        cases h
        exact True.intro
    · rw [unset_ne hi] at h
      rw [he i hi]
      exact r.sl i sv h
  · have g : ∀ k (sk : SV), (NV.unset is ρ)[k]? = some sk → isOwn sk = true → k ∉ is ∧ ρ[k]? = some sk := fun k sk hk ok => by
      by_cases hi : k ∈ is
      · rcases unset_get hk with ⟨rfl, _⟩ | h'
        · cases ok
        · have : k < ρ.length := (List.getElem?_eq_some_iff.mp h').1
          rw [unset_in hi this] at hk
          cases hk
          cases ok
      · rw [unset_ne hi] at hk
        exact ⟨hi, hk⟩
    obtain ⟨n1, g1⟩ := g i si h1 o1
    obtain ⟨n2, g2⟩ := g j sj h2 o2
    rw [he i n1] at e1
    rw [he j n2] at e2
    exact r.sep i j si sj l g1 g2 o1 o2 e1 e2
  · obtain ⟨⟨sv, h1, h2⟩, h3⟩ := r.bo i l h
    have hi : i ∉ is := fun hi => hb i hi l h
    exact ⟨⟨sv, by rw [unset_ne hi]; exact h1, h2⟩, h3⟩
theorem New.unset (n : New C ρ τ q) (hw : L2.wipe τ is = L2.wipe σ is) : New C (NV.unset is ρ) σ q := by
  have he : ∀ i, i ∉ is → σ[i]? = τ[i]? := fun i hi => by rw [← wipe_ne (σ := σ) hi, ← hw, wipe_ne hi]
  refine ⟨n.e, fun i sv h ho e => ?_⟩
  by_cases hi : i ∈ is
  · rcases unset_get h with ⟨rfl, _⟩ | h'
    · cases ho
    · have : i < ρ.length := (List.getElem?_eq_some_iff.mp h').1
      rw [unset_in hi this] at h
      cases h
      cases ho
  · rw [unset_ne hi] at h
    rw [he i hi] at e
    exact n.s i sv h ho e
end
/-! ### targets -/
def TgOk (K : PySem.W.Frag) (g : TG) (t : Tg) : Prop := ∀ (C : Cb) (ρ : Rho) (σ : St) (H : Hp) (v : V) (d : PyData) (k : Unit → Rho → Prop) (E : Exc → Rho → Prop) (Q : St → Hp → Prop), C.K = K → Rs C ρ σ H → Rp K H v d → W (tgs t d ρ) k E →
  (∀ ρ' σ', Rs C ρ' σ' H → k () ρ' → L2.wipe σ' t.slots = L2.wipe σ t.slots → σ'.length = σ.length → Q σ' H) → g v σ H Q
theorem bor_lent {ρ : Rho} {i : Nat} (h : (!isBor ρ[i]?) = true) : ∃ s, ρ[i]? = some s ∧ lent s = false := by
  cases hs : ρ[i]? with
  | none => rw [hs] at h; exact nomatch h
  | some s =>
    rw [hs] at h
    refine ⟨s, rfl, ?_⟩
    cases s with
    | own b ds => cases b with
      | true => exact nomatch h
      | false => rfl
    | dic b ds => cases b with
      | true => exact nomatch h
      | false => rfl
    | _ => rfl
theorem tg_nm {K : PySem.W.Frag} (i : Nat) : TgOk K (gName i) (.nm i) := fun C ρ σ H v d k E Q hK r rp w hq => by
  have w : W (R.chk (!isBor ρ[i]?) (.ok () (ρ.set i (.dat d)))) k E := w
  rw [W_chk] at w
  obtain ⟨s, hs, hl⟩ := bor_lent w.1
  subst hK
  refine hq _ _ (r.setD hs hl rp) w.2 ?_ (List.length_set ..)
  show (σ.set i (some v)).set i none = σ.set i none
  rw [List.set_set]
end SN
namespace SN
open PySem L2 NV
open DW (KT Ex Rp RpL WE WT WA WS WB Mp MpL DOp DOpL DCall DCallL WW DIx WI Wk pin pin_same pin_ne blkX WEb WTb)
/-- the context of a comprehension's parts -/
abbrev Cn.blk (C : Cn) (scope : Scope) (s : Shared) (H : Hp) (C0 : Addr) (cl : List (Str × Addr)) (fp : List Addr) (Hx : Hp) : Cn := ⟨blkX C.X scope s H C0 cl fp, Hx, C.B, C.ex, C.Hk, fun _ _ => False⟩
section
variable {C : Cn} {ρ : Rho} {σ : St} {H : Hp} {elt c tg iter : Expr} {pos : Pos} {scope : Scope} {t : Tg} {g : TG} {fi : Rho → R (List PyData)} {fe : Rho → R NV} {fc : Rho → R Bool}
theorem W_nf {α : Type} {m : R α} {Q : α → Rho → Prop} {E : Exc → Rho → Prop} (h : W (R.nox m) Q E) : W m Q (fun _ _ => False) := by
  rw [W_nox] at h; exact h
/-- the passes -/
theorem lc_core {tt : TT} {te : TE} {J : L2.It} {H1 : Hp} {ds : List PyData} {ρ1 : Rho} {Q : VK} {kl : List PyData → Rho → Prop}
    (hg : TgOk C.X.K g t) (r : C.Rs ρ1 σ H1) (w : Wk C.X.K H1 J ds) (hno : allNo t.slots ρ1 = true) (hz : ds.length < sizeLine)
    (hW : W (compL (fun ρ => R.bind (fe ρ) esc) (fun ρ => fc ρ) t .t .t ds [] ρ1) kl C.kx)
    (gq : ∀ q vs zs ρ2 H2, KT H1 H2 → C.Rs ρ2 σ H2 → New C.b ρ2 σ q → H2 q = some (.lst vs) → RpL C.X.K H2 vs zs → kl zs ρ2 → Q (.ref q) H2)
    (ht : ∀ Hx ρ2 σ2 H2 (k : Bool → Rho → Prop) (Qt : Bool → Hp → Prop), W (fc ρ2) k (fun _ _ => False) → Rs ⟨C.X.K, Hx, C.B, C.ex, C.Hk⟩ ρ2 σ2 H2 → (∀ b ρ3 H3, KT H2 H3 → Rs ⟨C.X.K, Hx, C.B, C.ex, C.Hk⟩ ρ3 σ2 H3 → k b ρ3 → Qt b H3) → tt σ2 H2 Qt)
    (he : ∀ Hx ρ2 σ2 H2 (k : PyData → Rho → Prop) (Qe : VK), W (R.bind (fe ρ2) esc) k (fun _ _ => False) → Rs ⟨C.X.K, Hx, C.B, C.ex, C.Hk⟩ ρ2 σ2 H2 → (∀ v d ρ3 H3, KT H2 H3 → Rs ⟨C.X.K, Hx, C.B, C.ex, C.Hk⟩ ρ3 σ2 H3 → Rp C.X.K H3 v d → k d ρ3 → Qe v H3) → te σ2 H2 Qe) :
    ∀ q, H1 q = none → ∃ W : Nat → Nat → Hp → Prop, (∃ m, W 0 m (L2.upd H1 q (.lst []))) ∧ ∀ i m H, W i m H →
      (J.stop i H ∧ Q (.ref q) H) ∨ (J.go i H ∧ ∃ Nx : Hp → Prop, (∀ H', Nx H' → ∃ m', m' < m ∧ W (i + 1) m' H') ∧ ∀ x H', J.yld i H x H' → g x (wipe σ t.slots) H' fun σ2 H2 => wipe σ2 t.slots = wipe σ t.slots ∧ tt σ2 H2 fun b H3 =>
        if b = true then te σ2 H3 fun y H4 => ∃ acc, H4 q = some (.lst acc) ∧ acc.length < sizeLine ∧ Nx (L2.upd H4 q (.lst (acc ++ [y]))) else Nx H3) := by
  intro q nq
  have hB : ∀ j ∈ t.slots, ∀ l, C.b.B[j]? ≠ some (some l) := fun j hj l => noB hno r hj l
  have new1 : New C.b ρ1 σ q := New.of_none r nq
  have ex1 : Ex H1 (L2.upd H1 q (.lst [])) := Ex.new nq
  refine ⟨fun i m H2 => i + m = ds.length ∧ KT H1 H2 ∧ ∃ acc vs ρ2, W (compL (fun ρ => R.bind (fe ρ) esc) (fun ρ => fc ρ) t .t .t (ds.drop i) acc ρ2) kl C.kx ∧ acc.length ≤ i ∧ allNo t.slots ρ2 = true ∧ C.Rs ρ2 σ H2 ∧ New C.b ρ2 σ q ∧ H2 q = some (.lst vs) ∧ RpL C.X.K H2 vs acc,
    ⟨ds.length, Nat.zero_add _, ex1.kt, [], [], ρ1, hW, Nat.le_refl _, hno, r.ex ex1, new1, upd_same, .nil⟩, fun i m H2 ⟨em, k2, acc, vs, ρ2, i2, al, no2, r2, n2, hq, hl⟩ => ?_⟩
  by_cases hi : i < ds.length
  · refine .inr ⟨w.go H2 i k2 hi, fun H3 => KT H1 H3 ∧ ∃ acc vs ρ2, W (compL (fun ρ => R.bind (fe ρ) esc) (fun ρ => fc ρ) t .t .t (ds.drop (i + 1)) acc ρ2) kl C.kx ∧ acc.length ≤ i + 1 ∧ allNo t.slots ρ2 = true ∧ C.Rs ρ2 σ H3 ∧ New C.b ρ2 σ q ∧ H3 q = some (.lst vs) ∧ RpL C.X.K H3 vs acc, fun H3 z => ⟨m - 1, by omega, by omega, z⟩, fun x H3 hy => ?_⟩
    obtain ⟨ex, hx⟩ := w.yld H2 i x H3 k2 hy
    have hxd := hx _ (List.getElem?_eq_getElem hi)
    rw [List.drop_eq_getElem_cons hi, compL, W_bind] at i2
    have r3 := r2.ex ex
    have hq3 := ex q _ hq
    have hqB : some q ∉ C.b.B := n2.notB r2
    have rp := rs_pin r3 n2 hq3 (by intro xs z; cases z) (by intro a b z; cases z)
    have rp2 := rp.wipe no2
    refine hg (C.b.pin q (.lst vs)) ρ2 (wipe σ t.slots) H3 x ds[i] _ C.kx _ rfl rp2 hxd i2 fun ρ4 σ4 r4 w4 hw4 hl4 => ?_
    have hw4' : wipe σ4 t.slots = wipe σ t.slots := by
      rw [hw4]
      -- wiped twice
      exact wipe_wipe σ t.slots
    have hl4' : σ.length = σ4.length := by rw [hl4, wipe_length]
    refine ⟨hw4', ?_⟩
    have w4 : W (R.bind (R.nox (fc ρ4)) fun b ρ => R.cond b (R.bind (R.nox (R.bind (fe ρ) esc)) fun e ρ => compL (fun ρ => R.bind (fe ρ) esc) (fun ρ => fc ρ) t .t .t (ds.drop (i + 1)) (acc ++ [e]) (NV.unset t.slots ρ)) (compL (fun ρ => R.bind (fe ρ) esc) (fun ρ => fc ρ) t .t .t (ds.drop (i + 1)) acc (NV.unset t.slots ρ))) kl C.kx := w4
    rw [W_bind] at w4
    -- back to the slots as they were
    have back : ∀ {ρ5 : Rho} {H5 : Hp}, Rs (C.b.pin q (.lst vs)) ρ5 σ4 H5 → C.Rs (NV.unset t.slots ρ5) σ H5 ∧ H5 q = some (.lst vs) ∧ New C.b (NV.unset t.slots ρ5) σ q ∧ allNo t.slots (NV.unset t.slots ρ5) = true := fun {ρ5 H5} r5 => by
      have r6 : Rs (C.b.pin q (.lst vs)) (NV.unset t.slots ρ5) σ H5 := r5.unset hB hl4' hw4'
      obtain ⟨a1, a2, a3⟩ := rs_unpin r6 n2.e hqB
      refine ⟨a1, a2, a3, ?_⟩
      unfold allNo
      refine List.all_eq_true.mpr fun j hj => ?_
      have hjl : j < ρ5.length := by
        rw [← r5.len, ← hl4', r2.len]
        exact (List.getElem?_eq_some_iff.mp (allNo_get no2 hj)).1
      rw [unset_in hj hjl]
    refine ht (pin C.H0 q (.lst vs)) ρ4 σ4 H3 _ _ (W_nf w4) r4 fun b ρ5 H5 k5 r5 w5 => ?_
    have k35 := (k2.trans ex.kt).trans k5
    cases b with
    | false =>
      refine iteF ?_
      obtain ⟨a1, a2, a3, a4⟩ := back r5
      exact ⟨k35, acc, vs, _, w5, by omega, a4, a1, a3, a2, hl.kt (ex.kt.trans k5)⟩
    | true =>
      refine iteT ?_
      have w5 : W (R.bind (R.nox (R.bind (fe ρ5) esc)) fun e ρ => compL (fun ρ => R.bind (fe ρ) esc) (fun ρ => fc ρ) t .t .t (ds.drop (i + 1)) (acc ++ [e]) (NV.unset t.slots ρ)) kl C.kx := w5
      rw [W_bind] at w5
      refine he (pin C.H0 q (.lst vs)) ρ5 σ4 H5 _ _ (W_nf w5) r5 fun v d' ρ6 H6 k6 r6 rpv w6 => ?_
      obtain ⟨a1, a2, a3, a4⟩ := back r6
      have hl6 : RpL C.X.K H6 vs acc := hl.kt ((ex.kt.trans k5).trans k6)
      refine ⟨vs, a2, by rw [hl6.length]; omega, (k35.trans k6).trans (Chg.lst a2).kt, acc ++ [d'], vs ++ [v], _, w6, by rw [List.length_append, List.length_singleton]; omega, a4, a1.chg (Chg.lst a2) a3, a3, upd_same, (hl6.snoc rpv).kt (Chg.lst a2).kt⟩
  · have ei : i = ds.length := by omega
    subst ei
    rw [List.drop_length, compL] at i2
    exact .inl ⟨w.stop H2 k2, gq q vs acc ρ2 H2 k2 r2 n2 hq hl i2⟩
/-- how the target, the tests and the item of a comprehension are read -/
structure CompOk (C : Cn) (scope : Scope) (own : List (Str × Nat)) (tg elt : Expr) (t : Tg) (g : TG) (fe : Rho → R NV) : Prop where
  ok : BlkOk C.X.N C.X.env.scope scope own
  sl : own.map (·.2) = t.slots
  pg : ∀ (s : Shared) (H : Hp) (C0 : Addr) (cl : List (Str × Addr)) (fp : List Addr), PG (blkX C.X scope s H C0 cl fp) tg g
  tg : TgOk C.X.K g t
  el : ∀ s H C0 cl fp Hx, SE (C.blk scope s H C0 cl fp Hx) elt fe
def lcR (fi : Rho → R (List PyData)) (fe : Rho → R NV) (fc : Rho → R Bool) (t : Tg) (ρ : Rho) : R NV := R.bind (fi ρ) fun ds ρ => R.chk (allNo t.slots ρ && decide (ds.length < sizeLine))
      (R.bind (compL (fun ρ => R.bind (fe ρ) esc) (fun ρ => fc ρ) t .t .t ds [] ρ) fun l ρ => .ok (.lst l) ρ)
theorem lc_te0 {own : List (Str × Nat)} {Q : VK} {k : NV → Rho → Prop} (K : CompOk C scope own tg elt t g fe) (hi : SI C tg iter fi) (r : C.Rs ρ σ H) (q : W (lcR fi fe (fun ρ => .ok true ρ) t ρ) k C.kx)
    (gq : ∀ v nv ρ' H', KT H H' → C.Rs ρ' σ H' → NvOk C.b ρ' σ H' v nv → k nv ρ' → Q v H') : tLc (WI C.X tg iter) g tYes (WEb C.X scope elt) (own.map (·.2)) σ H Q := by
  unfold lcR at q
  rw [W_bind] at q
  refine hi ρ _ q σ H _ r fun J ds ρ1 H1 k1 r1 w h1 => ?_
  rw [W_chk] at h1
  obtain ⟨h0, h1⟩ := h1
  rw [Bool.and_eq_true] at h0
  rw [W_bind] at h1
  rw [K.sl]
  refine lc_core K.tg r1 w h0.1 (of_decide_eq_true h0.2) h1 (fun q vs zs ρ2 H2 k2 r2 n2 hq hl hk => gq _ (.lst zs) ρ2 H2 (k1.trans k2) r2 ⟨q, vs, rfl, n2, hq, hl⟩ hk) ?_ ?_
  · intro Hx ρ2 σ2 H2 kk Qt hw r2 hQ
    exact hQ true ρ2 H2 (KT.refl H2) r2 hw
  · intro Hx ρ2 σ2 H2 kk Qe hw r2 hQ s H0 C0 cl fp
    exact (K.el s H0 C0 cl fp Hx).esc hw σ2 H2 Qe r2 hQ
theorem se_comp0 {own : List (Str × Nat)} (hc : C.X.calm = true) (hN : C.X.N.Nodup) (K : CompOk C scope own tg elt t g fe) (hi : SI C tg iter fi) (hs : ∀ x, foldedSetIterable iter C.X.env x = pure x) :
    SE C (.ListComp elt [⟨tg, iter, [], 0⟩] scope pos) (lcR fi fe (fun ρ => .ok true ρ) t) := fun ρ k q σ H Q r gq => by
  refine WE.of (pe_lc (own := own) hc hN DW.WI.pi K.ok K.pg (fun _ _ _ _ _ => pts_nil) (fun s H0 C0 cl fp => (⟨fun pins s' σ H Q I h => h s H0 C0 cl fp pins s' I⟩ : PE (blkX C.X scope s H0 C0 cl fp) elt (WEb C.X scope elt))) hs) ?_
  exact lc_te0 K hi r q gq
theorem lc_te1 {own : List (Str × Nat)} {Q : VK} {k : NV → Rho → Prop} (K : CompOk C scope own tg elt t g fe) (hcd : ∀ s H C0 cl fp Hx, ST (C.blk scope s H C0 cl fp Hx) c fc) (hi : SI C tg iter fi) (r : C.Rs ρ σ H) (q : W (lcR fi fe fc t ρ) k C.kx)
    (gq : ∀ v nv ρ' H', KT H H' → C.Rs ρ' σ H' → NvOk C.b ρ' σ H' v nv → k nv ρ' → Q v H') : tLc (WI C.X tg iter) g (WTb C.X scope c) (WEb C.X scope elt) (own.map (·.2)) σ H Q := by
  unfold lcR at q
  rw [W_bind] at q
  refine hi ρ _ q σ H _ r fun J ds ρ1 H1 k1 r1 w h1 => ?_
  rw [W_chk] at h1
  obtain ⟨h0, h1⟩ := h1
  rw [Bool.and_eq_true] at h0
  rw [W_bind] at h1
  rw [K.sl]
  refine lc_core K.tg r1 w h0.1 (of_decide_eq_true h0.2) h1 (fun q vs zs ρ2 H2 k2 r2 n2 hq hl hk => gq _ (.lst zs) ρ2 H2 (k1.trans k2) r2 ⟨q, vs, rfl, n2, hq, hl⟩ hk) ?_ ?_
  · intro Hx ρ2 σ2 H2 kk Qt hw r2 hQ s H0 C0 cl fp
    exact hcd s H0 C0 cl fp Hx ρ2 kk hw σ2 H2 Qt r2 hQ
  · intro Hx ρ2 σ2 H2 kk Qe hw r2 hQ s H0 C0 cl fp
    exact (K.el s H0 C0 cl fp Hx).esc hw σ2 H2 Qe r2 hQ
theorem se_comp1 {own : List (Str × Nat)} (hc : C.X.calm = true) (hN : C.X.N.Nodup) (K : CompOk C scope own tg elt t g fe) (hcd : ∀ s H C0 cl fp Hx, ST (C.blk scope s H C0 cl fp Hx) c fc) (hi : SI C tg iter fi) (hs : ∀ x, foldedSetIterable iter C.X.env x = pure x) :
    SE C (.ListComp elt [⟨tg, iter, [c], 0⟩] scope pos) (lcR fi fe fc t) := fun ρ k q σ H Q r gq => by
  refine WE.of (pe_lc (own := own) hc hN DW.WI.pi K.ok K.pg (fun s H0 C0 cl fp => pts_one (⟨fun pins s' σ H Q I h => h s H0 C0 cl fp pins s' I⟩ : PT (blkX C.X scope s H0 C0 cl fp) c (WTb C.X scope c))) (fun s H0 C0 cl fp => (⟨fun pins s' σ H Q I h => h s H0 C0 cl fp pins s' I⟩ : PE (blkX C.X scope s H0 C0 cl fp) elt (WEb C.X scope elt))) hs) ?_
  exact lc_te1 K hcd hi r q gq
end
end SN
namespace SN
open PySem L2 NV
open DW (KT Ex Rp RpL WE WT WA WS WB Mp MpL DOp DOpL DCall DCallL WW DIx WI Wk pin pin_same pin_ne blkX WEb WTb)
/-! ### what a def is called with -/
inductive ArgsOk (K : PySem.W.Frag) (H : Hp) : List V → List SV → List (Option Addr) → Prop
  | nil : ArgsOk K H [] [] []
  | dat {v : V} {d : PyData} {vs : List V} {avs : List SV} {B : List (Option Addr)} : Rp K H v d → ArgsOk K H vs avs B → ArgsOk K H (v :: vs) (.dat d :: avs) (none :: B)
  | len {l : Addr} {sv : SV} {vs : List V} {avs : List SV} {B : List (Option Addr)} : lent sv = true → OwnAt K H l sv → some l ∉ B → ArgsOk K H vs avs B → ArgsOk K H (.ref l :: vs) (sv :: avs) (some l :: B)
  | scr {a : Addr} {ns : List Int} {vs : List V} {avs : List SV} {B : List (Option Addr)} : DW.SqS K H a (ns.map V.int) → ArgsOk K H vs avs B → ArgsOk K H (.ref a :: vs) (.scr ns :: avs) (none :: B)
theorem OwnAt.at {K : PySem.W.Frag} {H : Hp} {l : Addr} {sv : SV} (h : OwnAt K H l sv) : ∃ o, H l = some o ∧ ((∃ vs, o = .lst vs) ∨ ∃ vs, o = .dK vs) := by
  cases sv with
  | own b ds => obtain ⟨vs, h, _⟩ := h; exact ⟨_, h, .inl ⟨_, rfl⟩⟩
  | dic b ds => obtain ⟨vs, h, _⟩ := h; exact ⟨_, h, .inr ⟨_, rfl⟩⟩
  | _ => exact h.elim
theorem ArgsOk.length {K : PySem.W.Frag} {H : Hp} : ∀ {vs : List V} {avs : List SV} {B : List (Option Addr)}, ArgsOk K H vs avs B → vs.length = avs.length ∧ B.length = avs.length
  | _, _, _, .nil => ⟨rfl, rfl⟩
  | _, _, _, .dat _ t => by have := t.length; simp only [List.length_cons]; omega
  | _, _, _, .len _ _ _ t => by have := t.length; simp only [List.length_cons]; omega
  | _, _, _, .scr _ t => by have := t.length; simp only [List.length_cons]; omega
/-- what stands where something was lent -/
theorem ArgsOk.at {K : PySem.W.Frag} {H : Hp} {l : Addr} : ∀ {vs : List V} {avs : List SV} {B : List (Option Addr)} {i : Nat}, ArgsOk K H vs avs B → B[i]? = some (some l) → ∃ sv, avs[i]? = some sv ∧ lent sv = true ∧ OwnAt K H l sv ∧ vs[i]? = some (.ref l)
  | _, _, _, i, .nil, h => by simp at h
  | _, _, _, 0, .dat _ t, h => by simp at h
  | _, _, _, 0, .scr _ t, h => by simp at h
  | _, _, _, 0, .len (sv := sv) h1 h2 _ t, h => by
    simp at h
    subst h
    exact ⟨sv, rfl, h1, h2, rfl⟩
  | _, _, _, i + 1, .dat _ t, h => by
    obtain ⟨sv, a, b⟩ := ArgsOk.at (i := i) t (by simpa using h)
    exact ⟨sv, by simpa using a, by simpa using b⟩
  | _, _, _, i + 1, .scr _ t, h => by
    obtain ⟨sv, a, b⟩ := ArgsOk.at (i := i) t (by simpa using h)
    exact ⟨sv, by simpa using a, by simpa using b⟩
  | _, _, _, i + 1, .len _ _ _ t, h => by
    obtain ⟨sv, a, b⟩ := ArgsOk.at (i := i) t (by simpa using h)
    exact ⟨sv, by simpa using a, by simpa using b⟩
theorem ArgsOk.inj {K : PySem.W.Frag} {H : Hp} {l : Addr} : ∀ {vs : List V} {avs : List SV} {B : List (Option Addr)} {i j : Nat}, ArgsOk K H vs avs B → B[i]? = some (some l) → B[j]? = some (some l) → i = j
  | _, _, _, i, j, .nil, h, _ => by simp at h
  | _, _, _, 0, _, .dat _ t, h, _ => by simp at h
  | _, _, _, 0, _, .scr _ t, h, _ => by simp at h
  | _, _, _, _, 0, .dat _ t, _, h => by simp at h
  | _, _, _, _, 0, .scr _ t, _, h => by simp at h
  | _, _, _, 0, 0, .len _ _ _ _, _, _ => rfl
  | _, _, _, 0, j + 1, .len _ _ n t, h, h' => by
    simp at h h'
    subst h
    exact absurd (List.mem_of_getElem? h') n
  | _, _, _, i + 1, 0, .len _ _ n t, h, h' => by
    simp at h h'
    subst h'
    exact absurd (List.mem_of_getElem? h) n
  | _, _, _, i + 1, j + 1, .len _ _ n t, h, h' => congrArg (· + 1) (ArgsOk.inj t (by simpa using h) (by simpa using h'))
  | _, _, _, i + 1, j + 1, .dat _ t, h, h' => congrArg (· + 1) (ArgsOk.inj t (by simpa using h) (by simpa using h'))
  | _, _, _, i + 1, j + 1, .scr _ t, h, h' => congrArg (· + 1) (ArgsOk.inj t (by simpa using h) (by simpa using h'))
/-- a parameter's slot at the start -/
theorem ArgsOk.slot {K : PySem.W.Frag} {H : Hp} : ∀ {vs : List V} {avs : List SV} {B : List (Option Addr)} {i : Nat} {sv : SV}, ArgsOk K H vs avs B → avs[i]? = some sv → ∃ v, vs[i]? = some v ∧ ((∃ d, sv = .dat d ∧ Rp K H v d) ∨ (∃ l, v = .ref l ∧ lent sv = true ∧ OwnAt K H l sv ∧ B[i]? = some (some l)) ∨ ∃ a ns, v = .ref a ∧ sv = .scr ns ∧ DW.SqS K H a (ns.map V.int))
  | _, _, _, i, _, .nil, h => by simp at h
  | _, _, _, 0, sv, .dat (v := v) (d := d) r t, h => by
    simp at h; subst h
    exact ⟨v, rfl, .inl ⟨d, rfl, r⟩⟩
  | _, _, _, 0, sv, .scr (a := a) (ns := ns) r t, h => by
    simp at h; subst h
    exact ⟨_, rfl, .inr (.inr ⟨a, ns, rfl, rfl, r⟩)⟩
  | _, _, _, 0, sv, .len (l := l) h1 h2 n t, h => by
    simp at h; subst h
    exact ⟨_, rfl, .inr (.inl ⟨l, rfl, h1, h2, rfl⟩)⟩
  | _, _, _, i + 1, sv, .dat _ t, h => by
    obtain ⟨v, a, b⟩ := ArgsOk.slot (i := i) t (by simpa using h)
    exact ⟨v, by simpa using a, by simpa using b⟩
  | _, _, _, i + 1, sv, .scr _ t, h => by
    obtain ⟨v, a, b⟩ := ArgsOk.slot (i := i) t (by simpa using h)
    exact ⟨v, by simpa using a, by simpa using b⟩
  | _, _, _, i + 1, sv, .len _ _ _ t, h => by
    obtain ⟨v, a, b⟩ := ArgsOk.slot (i := i) t (by simpa using h)
    exact ⟨v, by simpa using a, by simpa using b⟩
/-- what is handed back -/
def RetOk (K : PySem.W.Frag) (H H' : Hp) (v : V) : NV → Prop
  | .dat d => Rp K H' v d
  | .lst ds => ∃ p vs, v = .ref p ∧ H p = none ∧ H' p = some (.lst vs) ∧ RpL K H' vs ds
  | .dic kvs => ∃ p vs, v = .ref p ∧ H p = none ∧ H' p = some (.dK vs) ∧ RpD K H' vs kvs
  | .ali _ => False
structure FinOk (K : PySem.W.Frag) (H' : Hp) (B : List (Option Addr)) (fin : List SV) : Prop where
  at_ : ∀ (i : Nat) (l : Addr), B[i]? = some (some l) → ∃ sv, fin[i]? = some sv ∧ lent sv = true ∧ OwnAt K H' l sv
  only : ∀ (i : Nat) (sv : SV), fin[i]? = some sv → lent sv = true → ∃ l, B[i]? = some (some l)
/-- an exception of the program -/
def ExcOk (K : PySem.W.Frag) (mg : Str → Option Value) (H' : Hp) (x : Exc) (cls : Value) (d : Option Addr) : Prop := ∃ c, mg x.cls = some (.ref c) ∧ cls = .ref c ∧ XdOk K H' d x.fs
abbrev FS := List SV → (NV → List SV → Prop) → (Exc → List SV → Prop) → Prop
def spOf (K : PySem.W.Frag) (mg : Str → Option Value) (fs : FS) : Sp := fun vs H Q E => ∃ (avs : List SV) (B : List (Option Addr)) (R : NV → List SV → Prop) (Rx : Exc → List SV → Prop), ArgsOk K H vs avs B ∧ fs avs R Rx ∧
  (∀ v nv fin H', Fr H H B H' → RetOk K H H' v nv → FinOk K H' B fin → R nv fin → Q v H') ∧ ∀ x fin cls d H', Fr H H B H' → ExcOk K mg H' x cls d → FinOk K H' B fin → Rx x fin → E cls d H'
/-- a def's slots at its start -/
theorem rs_start {K : PySem.W.Frag} {H : Hp} {N ps : List Str} {vs : List V} {avs : List SV} {B : List (Option Addr)} {ex : Addr → Option Addr → Str → Prop} (ha : ArgsOk K H vs avs B) (hl : avs.length = ps.length) (hN : ps.length ≤ N.length) :
    Rs ⟨K, H, B, ex, H⟩ (avs ++ List.replicate (N.length - ps.length) .no) (start N vs) H := by
  obtain ⟨hv, hb⟩ := ha.length
  have get : ∀ (i : Nat) (sv : SV), (avs ++ List.replicate (N.length - ps.length) SV.no)[i]? = some sv → sv = .no ∨ (avs[i]? = some sv ∧ ∃ v, vs[i]? = some v ∧ (start N vs)[i]? = some (some v)) := fun i sv h => by
    by_cases hi : i < avs.length
    · rw [List.getElem?_append_left hi] at h
      obtain ⟨v, h1, _⟩ := ha.slot h
      refine .inr ⟨h, v, h1, ?_⟩
      unfold L2.start
      rw [List.getElem?_append_left (by rw [List.length_map, hv]; exact hi), List.getElem?_map, h1]
      rfl
    · rw [List.getElem?_append_right (by omega), List.getElem?_replicate] at h
      split at h
      · cases h; exact .inl rfl
      · cases h
  refine ⟨⟨fun _ _ h _ => h, KT.refl H⟩, ?_, fun i sv h => ?_, fun i j si sj l h1 h2 o1 o2 e1 e2 => ?_, fun i l h => ?_⟩
  · unfold L2.start
    rw [List.length_append, List.length_append, List.length_map, List.length_replicate, List.length_replicate, hv, hl]
  · rcases get i sv h with rfl | ⟨h1, v, h2, h3⟩
    · exact True.intro
    · rw [h3]
      obtain ⟨v', h4, h5⟩ := ha.slot h1
      rw [h2] at h4
      cases h4
      rcases h5 with ⟨d, rfl, r⟩ | ⟨l, rfl, h6, h7, h8⟩ | ⟨a, ns, rfl, rfl, r⟩
      · exact ⟨v, rfl, r⟩
      · cases sv with
        | own b ds =>
          cases h6
          exact ⟨l, rfl, h7, (fun z => Bool.noConfusion z), fun _ => h8⟩
        | dic b ds =>
          cases h6
          exact ⟨l, rfl, h7, (fun z => Bool.noConfusion z), fun _ => h8⟩
        | _ => exact h7.elim
      · exact ⟨a, rfl, r⟩
  · have f : ∀ (k : Nat) (sk : SV), (avs ++ List.replicate (N.length - ps.length) SV.no)[k]? = some sk → isOwn sk = true → (start N vs)[k]? = some (some (V.ref l)) → B[k]? = some (some l) := fun k sk hk ok ek => by
      rcases get k sk hk with rfl | ⟨g1, v, g2, g3⟩
      · cases ok
      rw [g3] at ek
      cases ek
      obtain ⟨v', g4, g5⟩ := ha.slot g1
      rw [g2] at g4
      cases g4
      rcases g5 with ⟨d, rfl, _⟩ | ⟨l', e, _, _, h8⟩ | ⟨a, ns, _, rfl, _⟩
      · cases ok
      · cases e; exact h8
      · cases ok
    exact ha.inj (f i si h1 o1 e1) (f j sj h2 o2 e2)
  · obtain ⟨sv, h1, h2, h3, _⟩ := ha.at h
    refine ⟨⟨sv, ?_, h2⟩, ?_⟩
    · rw [List.getElem?_append_left (List.getElem?_eq_some_iff.mp h1).1]
      exact h1
    · obtain ⟨o, e, _⟩ := h3.at
      exact ⟨o, e⟩
end SN
namespace SN
open PySem L2 NV
open DW (KT Ex Rp RpL WE WT WA WS WB Mp MpL DOp DOpL DCall DCallL WW DIx WI Wk pin pin_same pin_ne blkX WEb WTb)
/-! ### the arguments of a call -/
inductive NasOk (C : Cb) (ρ : Rho) (σ : St) (H : Hp) : List V → List NV → Prop
  | nil : NasOk C ρ σ H [] []
  | last {v : V} {nv : NV} : NvOk C ρ σ H v nv → NasOk C ρ σ H [v] [nv]
  | dat {v : V} {d : PyData} {vs : List V} {nvs : List NV} : Rp C.K H v d → NasOk C ρ σ H vs nvs → NasOk C ρ σ H (v :: vs) (.dat d :: nvs)
  | ali {v : V} {i : Nat} {vs : List V} {nvs : List NV} : σ[i]? = some (some v) → NasOk C ρ σ H vs nvs → NasOk C ρ σ H (v :: vs) (.ali i :: nvs)
section
variable {C : Cb} {ρ : Rho} {σ : St} {H H' : Hp}
theorem nodup_cons {i : Nat} {is : List Nat} (h : nodupB (i :: is) = true) : i ∉ is ∧ nodupB is = true := by
  unfold nodupB at h
  rw [Bool.and_eq_true] at h
  exact ⟨by simpa using h.1, h.2⟩
/-- the parameters of one that is a slot's -/
theorem av_ali {i : Nat} {v : V} {vs : List V} {avs : List SV} {B : List (Option Addr)} (r : Rs C ρ σ H) (hv : σ[i]? = some (some v)) (ok : isAv (avOf ρ (.ali i)) = true) (ha : ArgsOk C.K H vs avs B)
    (hn : ∀ l, some l ∈ B → ∀ sv, ρ[i]? = some sv → isOwn sv = true → σ[i]? ≠ some (some (.ref l))) :
    ∃ b, ArgsOk C.K H (v :: vs) (avOf ρ (.ali i) :: avs) (b :: B) ∧ ∀ l, b = some l → v = .ref l ∧ ∃ sv, ρ[i]? = some sv ∧ isOwn sv = true := by
  unfold avOf at ok ⊢
  simp only at ok ⊢
  cases hs : ρ[i]? with
  | none => rw [hs] at ok; exact nomatch ok
  | some s =>
    rw [hs] at ok
    cases s with
    | own b ds =>
      obtain ⟨l, ws, h1, h2, h3, _⟩ := r.own hs
      have hv' := hv
      rw [hv] at h1
      cases h1
      exact ⟨some l, .len rfl ⟨ws, h2, h3⟩ (fun hm => hn l hm _ hs rfl hv') ha, fun l' e => by cases e; exact ⟨rfl, _, rfl, rfl⟩⟩
    | dic b ds =>
      obtain ⟨l, ws, h1, h2, h3, _⟩ := r.dic hs
      have hv' := hv
      rw [hv] at h1
      cases h1
      exact ⟨some l, .len rfl ⟨ws, h2, h3⟩ (fun hm => hn l hm _ hs rfl hv') ha, fun l' e => by cases e; exact ⟨rfl, _, rfl, rfl⟩⟩
    | scr ns =>
      obtain ⟨a, h1, h2⟩ := r.sl i _ hs
      have h1 := r.val hs h1
      rw [hv] at h1
      cases h1
      exact ⟨none, .scr h2 ha, fun l e => nomatch e⟩
    | no => exact nomatch ok
    | dat d => exact nomatch ok
    | exn x => exact nomatch ok
/-- where what is lent comes from: a slot, or a new thing -/
def Src (C : Cb) (ρ : Rho) (σ : St) (nvs : List NV) (B : List (Option Addr)) : Prop :=
  ∀ (k : Nat) (l : Addr), B[k]? = some (some l) → (∃ i sv, nvs[k]? = some (.ali i) ∧ ρ[i]? = some sv ∧ isOwn sv = true ∧ σ[i]? = some (some (.ref l))) ∨ (New C ρ σ l ∧ ∀ i, nvs[k]? ≠ some (.ali i))
theorem mem_alis {i : Nat} : ∀ {nvs : List NV} {k : Nat}, nvs[k]? = some (.ali i) → i ∈ alis nvs
  | [], k, h => by simp at h
  | nv :: nvs, 0, h => by
    simp at h
    subst h
    exact List.mem_cons_self ..
  | nv :: nvs, k + 1, h => by
    have := mem_alis (nvs := nvs) (k := k) (by simpa using h)
    cases nv <;> first | exact this | exact List.mem_cons_of_mem _ this
theorem args_of (r : Rs C ρ σ H) : ∀ {vs : List V} {nvs : List NV}, NasOk C ρ σ H vs nvs → nodupB (alis nvs) = true → (nvs.map (avOf ρ)).all isAv = true → ∃ B, ArgsOk C.K H vs (nvs.map (avOf ρ)) B ∧ Src C ρ σ nvs B
  | _, _, .nil, _, _ => ⟨[], .nil, fun k l h => by simp at h⟩
  | _, _, .dat (d := d) h t, hn, ha => by
    obtain ⟨B, h1, h2⟩ := args_of r t hn (by simpa [avOf, isAv] using ha)
    refine ⟨none :: B, .dat h h1, fun k l hk => ?_⟩
    cases k with
    | zero => simp at hk
    | succ k => exact h2 k l (by simpa using hk)
  | _, _, .ali (i := i) hv t, hn, ha => by
    obtain ⟨n1, n2⟩ := nodup_cons hn
    rw [List.map_cons, List.all_cons, Bool.and_eq_true] at ha
    obtain ⟨B, h1, h2⟩ := args_of r t n2 ha.2
    obtain ⟨b, h3, h4⟩ := av_ali r hv ha.1 h1 fun l hm sv hs ho e => by
      obtain ⟨k, hk⟩ := List.getElem?_of_mem hm
      rcases h2 k l hk with ⟨j, sj, g1, g2, g3, g4⟩ | ⟨g1, _⟩
      · have := r.sep i j sv sj l hs g2 ho g3 e g4
        subst this
        exact n1 (mem_alis g1)
      · exact g1.s i sv hs ho e
    refine ⟨b :: B, h3, fun k l hk => ?_⟩
    cases k with
    | zero =>
      have hk : b = some l := by simpa using hk
      obtain ⟨e, sv, g1, g2⟩ := h4 l hk
      subst e
      exact .inl ⟨i, sv, rfl, g1, g2, hv⟩
    | succ k => exact h2 k l (by simpa using hk)
  | _, _, .last (v := v) (nv := nv) h, hn, ha => by
    cases nv with
    | dat d => exact ⟨[none], .dat h .nil, fun k l hk => by cases k <;> simp at hk⟩
    | lst ds =>
      obtain ⟨p, vs, rfl, n, h1, h2⟩ := h
      refine ⟨[some p], .len rfl ⟨vs, h1, h2⟩ (by simp) .nil, fun k l hk => ?_⟩
      cases k with
      | zero => simp at hk; subst hk; exact .inr ⟨n, fun i e => by simp at e⟩
      | succ k => simp at hk
    | dic ds =>
      obtain ⟨p, vs, rfl, n, h1, h2⟩ := h
      refine ⟨[some p], .len rfl ⟨vs, h1, h2⟩ (by simp) .nil, fun k l hk => ?_⟩
      cases k with
      | zero => simp at hk; subst hk; exact .inr ⟨n, fun i e => by simp at e⟩
      | succ k => simp at hk
    | ali i =>
      obtain ⟨b, h3, h4⟩ := av_ali r h.1 (by simpa using ha) .nil fun l hm => by simp at hm
      refine ⟨[b], h3, fun k l hk => ?_⟩
      cases k with
      | zero =>
        have hk : b = some l := by simpa using hk
        obtain ⟨e, sv, g1, g2⟩ := h4 l hk
        subst e
        exact .inl ⟨i, sv, rfl, g1, g2, h.1⟩
      | succ k => simp at hk
end
end SN
namespace SN
open PySem L2 NV
open DW (KT Ex Rp RpL WE WT WA WS WB Mp MpL DOp DOpL DCall DCallL WW DIx WI Wk pin pin_same pin_ne blkX WEb WTb)
section
variable {C : Cb} {ρ : Rho} {σ : St} {H1 H2 : Hp}
theorem wb_len (ρ : Rho) (i : Nat) (s : SV) : (wb ρ i s).length = ρ.length := by
  cases s with
  | own b ds => cases b <;> first | exact List.length_set .. | rfl
  | dic b ds => cases b <;> first | exact List.length_set .. | rfl
  | _ => rfl
theorem wb_ne {i j : Nat} (s : SV) (h : i ≠ j) : (wb ρ i s)[j]? = ρ[j]? := by
  cases s with
  | own b ds => cases b <;> first | exact List.getElem?_set_ne h | rfl
  | dic b ds => cases b <;> first | exact List.getElem?_set_ne h | rfl
  | _ => rfl
theorem wback_len : ∀ (nvs : List NV) (fin : List SV) (ρ : Rho), (wback nvs fin ρ).length = ρ.length
  | [], _, _ => rfl
  | _ :: _, [], _ => rfl
  | v :: vs, s :: ss, ρ => by
    rw [wback, wback_len vs ss]
    cases v <;> first | exact wb_len _ _ _ | rfl
theorem wback_ne {j : Nat} : ∀ {nvs : List NV} {fin : List SV} {ρ : Rho}, j ∉ alis nvs → (wback nvs fin ρ)[j]? = ρ[j]?
  | [], _, _, _ => rfl
  | _ :: _, [], _, _ => rfl
  | v :: vs, s :: ss, ρ, h => by
    rw [wback]
    cases v with
    | ali i =>
      have h : j ∉ i :: alis vs := h
      rw [List.mem_cons, not_or] at h
      rw [wback_ne h.2]
      exact wb_ne s (fun e => h.1 e.symm)
    | dat d => exact wback_ne (nvs := vs) h
    | lst d => exact wback_ne (nvs := vs) h
    | dic d => exact wback_ne (nvs := vs) h
theorem wb_congr {ρ ρ' : Rho} {j : Nat} (s : SV) (h : ρ[j]? = ρ'[j]?) (hl : ρ.length = ρ'.length) : (wb ρ j s)[j]? = (wb ρ' j s)[j]? := by
  cases s with
  | own b ds =>
    cases b with
    | true =>
      show (ρ.set j (.own (flag ρ[j]?) ds))[j]? = (ρ'.set j (.own (flag ρ'[j]?) ds))[j]?
      rw [h, List.getElem?_set, List.getElem?_set, hl, if_pos rfl, if_pos rfl]
    | false => exact h
  | dic b ds =>
    cases b with
    | true =>
      show (ρ.set j (.dic (flag ρ[j]?) ds))[j]? = (ρ'.set j (.dic (flag ρ'[j]?) ds))[j]?
      rw [h, List.getElem?_set, List.getElem?_set, hl, if_pos rfl, if_pos rfl]
    | false => exact h
  | _ => exact h
theorem wback_at {j : Nat} {s : SV} : ∀ {nvs : List NV} {fin : List SV} {ρ : Rho} {k : Nat}, nodupB (alis nvs) = true → nvs[k]? = some (.ali j) → fin[k]? = some s → (wback nvs fin ρ)[j]? = (wb ρ j s)[j]?
  | [], _, _, k, _, h, _ => by simp at h
  | _ :: _, [], _, k, _, _, h => by simp at h
  | v :: vs, s' :: ss, ρ, 0, hn, h, hf => by
    simp at h hf
    subst h hf
    obtain ⟨n1, n2⟩ := nodup_cons (show nodupB (j :: alis vs) = true from hn)
    rw [wback, wback_ne n1]
    rfl
  | v :: vs, s' :: ss, ρ, k + 1, hn, h, hf => by
    have h' : vs[k]? = some (.ali j) := by simpa using h
    have hf' : ss[k]? = some s := by simpa using hf
    rw [wback]
    cases v with
    | ali i =>
      obtain ⟨n1, n2⟩ := nodup_cons (show nodupB (i :: alis vs) = true from hn)
      have hij : i ≠ j := fun e => by subst e; exact n1 (mem_alis h')
      rw [wback_at n2 h' hf']
      exact wb_congr s (wb_ne s' hij) (wb_len ..)
    | dat d => exact wback_at (nvs := vs) hn h' hf'
    | lst d => exact wback_at (nvs := vs) hn h' hf'
    | dic d => exact wback_at (nvs := vs) hn h' hf'
theorem wback_none {j : Nat} : ∀ {nvs : List NV} {fin : List SV} {ρ : Rho} {k : Nat}, nodupB (alis nvs) = true → nvs[k]? = some (.ali j) → fin[k]? = none → (wback nvs fin ρ)[j]? = ρ[j]?
  | [], _, _, k, _, h, _ => by simp at h
  | _ :: _, [], _, k, _, _, _ => rfl
  | v :: vs, s' :: ss, ρ, 0, hn, h, hf => by simp at hf
  | v :: vs, s' :: ss, ρ, k + 1, hn, h, hf => by
    have h' : vs[k]? = some (.ali j) := by simpa using h
    have hf' : ss[k]? = none := by simpa using hf
    rw [wback]
    cases v with
    | ali i =>
      obtain ⟨n1, n2⟩ := nodup_cons (show nodupB (i :: alis vs) = true from hn)
      have hij : i ≠ j := fun e => by subst e; exact n1 (mem_alis h')
      rw [wback_none n2 h' hf']
      exact wb_ne s' hij
    | dat d => exact wback_none (nvs := vs) hn h' hf'
    | lst d => exact wback_none (nvs := vs) hn h' hf'
    | dic d => exact wback_none (nvs := vs) hn h' hf'
theorem alis_mem {i : Nat} : ∀ {nvs : List NV}, i ∈ alis nvs → ∃ k : Nat, nvs[k]? = some (NV.ali i)
  | [], h => nomatch h
  | v :: vs, h => by
    cases v with
    | ali j =>
      rcases List.mem_cons.mp h with rfl | h
      · exact ⟨0, rfl⟩
      · obtain ⟨k, hk⟩ := alis_mem h
        exact ⟨k + 1, by simpa using hk⟩
    | dat d => obtain ⟨k, hk⟩ := alis_mem (nvs := vs) h; exact ⟨k + 1, by simpa using hk⟩
    | lst d => obtain ⟨k, hk⟩ := alis_mem (nvs := vs) h; exact ⟨k + 1, by simpa using hk⟩
    | dic d => obtain ⟨k, hk⟩ := alis_mem (nvs := vs) h; exact ⟨k + 1, by simpa using hk⟩
end
end SN
namespace SN
open PySem L2 NV
open DW (KT Ex Rp RpL WE WT WA WS WB Mp MpL DOp DOpL DCall DCallL WW DIx WI Wk pin pin_same pin_ne blkX WEb WTb)
section
variable {C : Cb} {ρ : Rho} {σ : St} {H1 H2 : Hp} {vs : List V} {nvs : List NV} {B : List (Option Addr)} {fin : List SV}
/-- a slot that was not lent -/
theorem slot_stay {j : Nat} {sv : SV} (r : Rs C ρ σ H1) (ha : ArgsOk C.K H1 vs (nvs.map (avOf ρ)) B) (fr : Fr H1 H1 B H2) (hs : ρ[j]? = some sv) (hn : ∀ l, isOwn sv = true → σ[j]? = some (some (.ref l)) → some l ∉ B) : SlotOk C H2 j (σ[j]?.join) sv := by
  have h := r.sl j sv hs
  cases sv with
  | no => exact True.intro
  | dat d =>
    obtain ⟨x, h1, h2⟩ := h
    exact ⟨x, h1, h2.kt fr.kt⟩
  | own b ds =>
    obtain ⟨l, h1, ⟨ws, h2, h3⟩, h4⟩ := h
    exact ⟨l, h1, ⟨ws, fr.ext l _ h2 (hn l rfl (r.val hs h1)), h3.kt fr.kt⟩, h4⟩
  | dic b ds =>
    obtain ⟨l, h1, ⟨ws, h2, h3⟩, h4⟩ := h
    exact ⟨l, h1, ⟨ws, fr.ext l _ h2 (hn l rfl (r.val hs h1)), h3.kt fr.kt⟩, h4⟩
  | exn x =>
    obtain ⟨a, d, h1, h2, h3⟩ := h
    refine ⟨a, d, h1, h2, ?_⟩
    cases d with
    | none => exact h3
    | some dd =>
      obtain ⟨ws, g1, g2⟩ := h3
      refine ⟨ws, fr.ext dd _ g1 fun hm => ?_, g2.kt fr.kt⟩
      obtain ⟨k, hk⟩ := List.getElem?_of_mem hm
      obtain ⟨s, _, _, g3, _⟩ := ha.at hk
      obtain ⟨o, g4, g5⟩ := g3.at
      rw [g1] at g4
      cases g4
      rcases g5 with ⟨_, e⟩ | ⟨_, e⟩ <;> cases e
  | scr ns =>
    obtain ⟨a, h1, h2⟩ := h
    exact ⟨a, h1, h2.kt fr.kt⟩
theorem av_own {i : Nat} {sv : SV} (h : ρ[i]? = some sv) (ho : isOwn sv = true) : lent (avOf ρ (.ali i)) = true := by
  unfold avOf
  simp only [h]
  cases sv <;> first | rfl | exact nomatch ho
theorem wb_own {j : Nat} {s sv : SV} (hs : ρ[j]? = some sv) (ho : isOwn sv = true) (hl : lent s = true) : ∃ s', (wb ρ j s)[j]? = some s' ∧ lent s' = lent sv ∧ isOwn s' = true ∧ ∀ (K : PySem.W.Frag) (H : Hp) (l : Addr), OwnAt K H l s → OwnAt K H l s' := by
  have hj : j < ρ.length := (List.getElem?_eq_some_iff.mp hs).1
  have hf : flag ρ[j]? = lent sv := by rw [hs]; cases sv <;> rfl
  cases s with
  | own b ds =>
    cases hl
    refine ⟨.own (flag ρ[j]?) ds, List.getElem?_set_self hj, hf, rfl, fun K H l h => h⟩
  | dic b ds =>
    cases hl
    refine ⟨.dic (flag ρ[j]?) ds, List.getElem?_set_self hj, hf, rfl, fun K H l h => h⟩
  | _ => exact nomatch hl
/-- what a slot is behind the call -/
theorem after_key (r : Rs C ρ σ H1) (ha : ArgsOk C.K H1 vs (nvs.map (avOf ρ)) B) (src : Src C ρ σ nvs B) (hn : nodupB (alis nvs) = true) (fr : Fr H1 H1 B H2) (fo : FinOk C.K H2 B fin) : ∀ (j : Nat) (sv : SV), (wback nvs fin ρ)[j]? = some sv → (ρ[j]? = some sv ∧ ∀ l, isOwn sv = true → σ[j]? = some (some (.ref l)) → some l ∉ B) ∨ ∃ l sv0, ρ[j]? = some sv0 ∧ isOwn sv0 = true ∧ isOwn sv = true ∧ lent sv = lent sv0 ∧ σ[j]? = some (some (.ref l)) ∧ OwnAt C.K H2 l sv := fun j sv h => by
  by_cases hj : j ∈ alis nvs
  · obtain ⟨k, hk⟩ := alis_mem hj
    have hav : (nvs.map (avOf ρ))[k]? = some (avOf ρ (.ali j)) := by rw [List.getElem?_map, hk]; rfl
    obtain ⟨v, hv, hc⟩ := ha.slot hav
    cases hs : ρ[j]? with
    | none =>
      exfalso
      have h1 := (List.getElem?_eq_some_iff.mp h).1
      rw [wback_len] at h1
      rw [List.getElem?_eq_getElem h1] at hs
      cases hs
    | some sv0 =>
      by_cases ho : isOwn sv0 = true
      · have hlt := av_own hs ho
        rcases hc with ⟨d, e, _⟩ | ⟨l, e, _, _, hb⟩ | ⟨a, ns, _, e, _⟩
        · rw [e] at hlt; cases hlt
        · obtain ⟨s, f1, f2, f3⟩ := fo.at_ k l hb
          rw [wback_at hn hk f1] at h
          obtain ⟨s', g1, g2, g3, g4⟩ := wb_own hs ho f2
          rw [g1] at h
          cases h
          refine .inr ⟨l, sv0, rfl, ho, g3, g2, ?_, g4 _ _ _ f3⟩
          rcases src k l hb with ⟨i, si, q1, q2, q3, q4⟩ | ⟨_, q⟩
          · rw [hk] at q1
            cases q1
            exact q4
          · exact absurd hk (q j)
        · rw [e] at hlt; cases hlt
      · have hno : isOwn sv0 = false := by simpa using ho
        have hu : (wback nvs fin ρ)[j]? = ρ[j]? := by
          cases hf : fin[k]? with
          | none => exact wback_none hn hk hf
          | some s =>
            rw [wback_at hn hk hf]
            have hl : lent s = false := by
              cases hl : lent s with
              | false => rfl
              | true =>
                exfalso
                obtain ⟨l, hb⟩ := fo.only k s hf hl
                rcases src k l hb with ⟨i, si, q1, q2, q3, _⟩ | ⟨_, q⟩
                · rw [hk] at q1
                  cases q1
                  rw [hs] at q2
                  cases q2
                  rw [hno] at q3
                  cases q3
                · exact q j hk
            cases s with
            | own b ds => cases b with
              | true => cases hl
              | false => rfl
            | dic b ds => cases b with
              | true => cases hl
              | false => rfl
            | _ => rfl
        rw [hu, hs] at h
        cases h
        exact .inl ⟨rfl, fun l z => by rw [hno] at z; cases z⟩
  · rw [wback_ne hj] at h
    refine .inl ⟨h, fun l ho e hm => ?_⟩
    obtain ⟨k, hk⟩ := List.getElem?_of_mem hm
    rcases src k l hk with ⟨i, si, q1, q2, q3, q4⟩ | ⟨q, _⟩
    · have := r.sep j i sv si l h q2 ho q3 e q4
      subst this
      exact hj (mem_alis q1)
    · exact q.s j sv h ho e
theorem new_after (r : Rs C ρ σ H1) (ha : ArgsOk C.K H1 vs (nvs.map (avOf ρ)) B) (src : Src C ρ σ nvs B) (hn : nodupB (alis nvs) = true) (fr : Fr H1 H1 B H2) (fo : FinOk C.K H2 B fin) {p : Addr} (hp : H1 p = none) : New C (wback nvs fin ρ) σ p := by
  have n0 := New.of_none r hp
  refine ⟨n0.e, fun i sv hi ho e => ?_⟩
  rcases after_key r ha src hn fr fo i sv hi with ⟨h1, _⟩ | ⟨l, sv0, g1, g2, _⟩
  · exact n0.s i sv h1 ho e
  · exact n0.s i sv0 g1 g2 e
theorem rs_after (r : Rs C ρ σ H1) (ha : ArgsOk C.K H1 vs (nvs.map (avOf ρ)) B) (src : Src C ρ σ nvs B) (hn : nodupB (alis nvs) = true) (fr : Fr H1 H1 B H2) (fo : FinOk C.K H2 B fin) : Rs C (wback nvs fin ρ) σ H2 := by
  have key := after_key r ha src hn fr fo
  have frE : ∀ b o, C.H0 b = some o → some b ∉ C.B → H2 b = some o := fun b o h n => fr.ext b o (r.fr.ext b o h n) fun hm => by
    obtain ⟨k, hk⟩ := List.getElem?_of_mem hm
    rcases src k b hk with ⟨i, si, q1, q2, q3, q4⟩ | ⟨q, _⟩
    · obtain ⟨l, o', e1, _, _, e4⟩ := r.owned q2 q3
      rw [q4] at e1
      cases e1
      rcases e4 with e4 | e4
      · rw [h] at e4; cases e4
      · exact n e4
    · rw [q.e] at h; cases h
  have frC : Fr C.Hk C.H0 C.B H2 := ⟨frE, r.fr.kt.trans fr.kt⟩
  refine ⟨frC, by rw [wback_len]; exact r.len, fun j sv h => ?_, fun i j si sj l h1 h2 o1 o2 e1 e2 => ?_, fun i l h => ?_⟩
  · rcases key j sv h with ⟨h1, h2⟩ | ⟨l, sv0, g1, g2, g3, g4, g5, g6⟩
    · exact slot_stay r ha fr h1 h2
    · have hold := r.sl j sv0 g1
      rw [g5]
      have hC : (lent sv0 = false → C.H0 l = none) ∧ (lent sv0 = true → C.B[j]? = some (some l)) := by
        cases sv0 with
        | own b ds =>
          obtain ⟨l', a1, _, a3, a4⟩ := hold
          rw [g5] at a1
          cases a1
          exact ⟨a3, a4⟩
        | dic b ds =>
          obtain ⟨l', a1, _, a3, a4⟩ := hold
          rw [g5] at a1
          cases a1
          exact ⟨a3, a4⟩
        | _ => exact nomatch g2
      rw [← g4] at hC
      cases sv with
      | own b ds => exact ⟨l, rfl, g6, hC.1, hC.2⟩
      | dic b ds => exact ⟨l, rfl, g6, hC.1, hC.2⟩
      | _ => exact nomatch g3
  · have f : ∀ (k : Nat) (sk : SV), (wback nvs fin ρ)[k]? = some sk → isOwn sk = true → ∃ s0, ρ[k]? = some s0 ∧ isOwn s0 = true := fun k sk hk ok => by
      rcases key k sk hk with ⟨h1, _⟩ | ⟨_, sv0, g1, g2, _⟩
      · exact ⟨sk, h1, ok⟩
      · exact ⟨sv0, g1, g2⟩
    obtain ⟨s1, a1, b1⟩ := f i si h1 o1
    obtain ⟨s2, a2, b2⟩ := f j sj h2 o2
    exact r.sep i j s1 s2 l a1 a2 b1 b2 e1 e2
  · obtain ⟨⟨sv, h1, h2⟩, h3⟩ := r.bo i l h
    refine ⟨?_, h3⟩
    have hlt : i < (wback nvs fin ρ).length := by rw [wback_len]; exact (List.getElem?_eq_some_iff.mp h1).1
    refine ⟨_, List.getElem?_eq_getElem hlt, ?_⟩
    rcases key i _ (List.getElem?_eq_getElem hlt) with ⟨g1, _⟩ | ⟨_, sv0, g1, _, _, g4, _⟩
    · rw [h1] at g1
      cases g1
      exact h2
    · rw [g4]
      rw [h1] at g1
      cases g1
      exact h2
end
end SN
namespace SN
open PySem L2 NV
open DW (KT Ex Rp RpL WE WT WA WS WB Mp MpL DOp DOpL DCall DCallL WW DIx WI Wk pin pin_same pin_ne blkX WEb WTb)
/-- a def's promise, where no guard of a repr stands around; what it raises is told -/
structure FnX (P : Program) (w : World) (K : PySem.W.Frag) (mg : Str → Option Value) (base : Heap) (k : Nat) (f : Addr) (fd : FuncData) (ps : List Str) (sp : Sp) : Prop where
  len : ∀ vs H Q E, sp vs H Q E → vs.length = ps.length
  run : ∀ (A : Around) (outer : List Env) (s : Shared) (H : Hp) (args : Args) (us : List Value) (vs : List V) (Q : VK) (E : XK), Room k A → A.guards = some [] →
    Env0 P w K mg base A outer s H → BindsTo s fd args (ps.zip us) → Vals vs us → sp vs H Q E →
    codeAny (model P w) A (.call (.ref f) args) (CR (L2.CX P w) outer P w H s Q E) s
theorem FnX.mono {P : Program} {w : World} {K : PySem.W.Frag} {mg : Str → Option Value} {base : Heap} {j k : Nat} {f : Addr} {fd : FuncData} {ps : List Str} {sp : Sp} (F : FnX P w K mg base j f fd ps sp) (h : j ≤ k) : FnX P w K mg base k f fd ps sp :=
  ⟨F.len, fun A outer s H args us vs Q E hr => F.run A outer s H args us vs Q E (hr.mono h)⟩
abbrev fcx (P : Program) (w : World) (K : PySem.W.Frag) (mg : Str → Option Value) (base : Heap) (N : List Str) (qual : Str) (st : Stmt) (f : Addr) (cdv : Value) (A : Around) (outer : List Env) (s : Shared) (H : Hp) (E : XK) : Cx := cxOf (L2.CX P w) P w K mg base N qual (defScope st) f cdv A outer s H E
theorem fnX_of {P : Program} {w : World} {K : PySem.W.Frag} {mg : Str → Option Value} {base : Heap} {x qual : Str} {st : Stmt} {f : Addr} {fd : FuncData} {N ps : List Str} {k : Nat} {sp : Sp} (F : Fun K x qual st f fd) (S : FnScope N ps (defScope st))
    (len : ∀ vs H Q E, sp vs H Q E → vs.length = ps.length)
    (hbody : ∀ (cdv : Value) (A : Around) (outer : List Env) (s : Shared) (H : Hp) (vs : List V) (Q : VK) (E : XK), Room k (A.deeper (PyProof.Rows.envOfC qual (defScope st) s.heap.objs.size f cdv)) → A.guards = some [] → sp vs H Q E →
      WB (fcx P w K mg base N qual st f cdv A outer s H E) (defBody st) { nx := fun _ H' => Q .non H', rt := Q } (L2.start N vs) H) : FnX P w K mg base (k + 1) f fd ps sp := by
  obtain ⟨oc, od, kV, doc, pm, an, cdv, ct, osl, rfl, lk, hcd⟩ := F.ex
  refine ⟨len, ?_⟩
  intro A outer s H args us vs Q E hr hgd e0 hb r hsp
  have hl := len vs H Q E hsp
  have kin : K.In s.heap := e0.mod.kin.keeps fun b o e => (e0.bs b o e).1
  have nolim : s.heap.NoLimit := e0.mod.nolimit.keeps fun b o e => (e0.bs b o e).1
  have hk : ∀ y ∈ ps.zip us, (defScope st).names.lookup y.1 = some .local ∨ ((defScope st).names.lookup y.1 = some .cell ∧ ((cellsFrom (s.heap.objs.size + 1) (defScope st).names []).lookup y.1).isSome = true) := by
    rintro ⟨n, v⟩ hy
    have hp := S.par n (List.of_mem_zip hy).1
    exact hp.imp id fun q => ⟨q, PySem.W.cellsFrom_some _ _ _ (.inl q)⟩
  refine codeAny_call_function hr.depth (kin _ _ lk) rfl S.co S.gen rfl (PySem.W.codeRec_of kin hcd) (hb _ _ _ _ ?_)
  refine wpAny_newFunctionEnv_cells S.kind hk fun env he s1 x => ?_
  subst he
  refine ⟨nolim.keeps x.toInCall.keep, codeAny_func ?_⟩
  have I : Inv (fcx P w K mg base N qual st f cdv A outer s H E) [] (L2.start N vs) H s1 := inv_start S hr.hd e0 hl r x
  refine wpAny_mono (hbody cdv A outer s H vs Q E (hr.deeper _) hgd hsp [] s1 I) ?_ fun e s' hs => hs
  intro fl s' hs
  have fin : ∀ {τ : St} {H' : Hp} {v : V} {u : Value}, Inv (fcx P w K mg base N qual st f cdv A outer s H E) [] τ H' s' → RelV v u → Q v H' → CE outer P w H s Q u s' := by
    intro τ H' v u J rv q
    exact ⟨v, H', J.os, J.bare, J.base, J.hok, rv, q⟩
  match fl, hs with
  | .ret u, hs =>
    obtain ⟨v, τ, H', J, rv, q⟩ := hs
    exact fin J rv q
  | .next, hs =>
    obtain ⟨τ, H', J, q⟩ := hs
    exact fin (v := V.non) (u := Value.none) J rfl q
  | .brk, hs =>
    obtain ⟨_, _, _, q⟩ := hs
    exact q.elim
  | .cont, hs =>
    obtain ⟨_, _, _, q⟩ := hs
    exact q.elim
end SN
namespace SN
open PySem L2 NV
open DW (KT Ex Rp RpL WE WT WA WS WB Mp MpL DOp DOpL DCall DCallL WW DIx WI Wk pin pin_same pin_ne blkX WEb WTb)
/-! ### statements -/
structure Acc (C : Cn) (H : Hp) (k : Fl → Rho → Prop) (E : Ends) : Prop where
  nx : ∀ ρ σ H', KT H H' → C.Rs ρ σ H' → k .nx ρ → E.nx σ H'
  rt : ∀ v nv ρ σ H', KT H H' → C.Rs ρ σ H' → NvOk C.b ρ σ H' v nv → k (.rt nv) ρ → E.rt v H'
  bk : ∀ ρ σ H', KT H H' → C.Rs ρ σ H' → k .bk ρ → E.bk σ H'
  ct : ∀ ρ σ H', KT H H' → C.Rs ρ σ H' → k .ct ρ → E.ct σ H'
def DS (C : Cn) (ρ : Rho) (st : Stmt) (k : Fl → Rho → Prop) : Prop := ∀ σ H (E : Ends), C.Rs ρ σ H → Acc C H k E → WS C.X st E σ H
def DB (C : Cn) (ρ : Rho) (sts : List Stmt) (k : Fl → Rho → Prop) : Prop := ∀ σ H (E : Ends), C.Rs ρ σ H → Acc C H k E → WB C.X sts E σ H
def SS (C : Cn) (st : Stmt) (f : Rho → R Fl) : Prop := ∀ ρ k, W (f ρ) k C.kx → DS C ρ st k
def SB (C : Cn) (sts : List Stmt) (f : Rho → R Fl) : Prop := ∀ ρ k, W (f ρ) k C.kx → DB C ρ sts k
section
variable {C : Cn} {ρ : Rho} {e a b c : Expr} {st : Stmt} {sts sa sb : List Stmt} {pos : Pos} {fa : Rho → R NV} {ta : Rho → R Bool} {fs fr ga gb : Rho → R Fl} {H H' : Hp} {k : Fl → Rho → Prop}
theorem Acc.kt {E : Ends} (a : Acc C H k E) (q : KT H H') : Acc C H' k E :=
  ⟨fun ρ σ H2 h => a.nx ρ σ H2 (q.trans h), fun v nv ρ σ H2 h => a.rt v nv ρ σ H2 (q.trans h), fun ρ σ H2 h => a.bk ρ σ H2 (q.trans h), fun ρ σ H2 h => a.ct ρ σ H2 (q.trans h)⟩
theorem sb_nil : SB C [] fun ρ => .ok .nx ρ := fun ρ k q σ H E r ac => WB.of pss_nil (ac.nx ρ σ H (KT.refl H) r q)
theorem sb_cons (h : SS C st fs) (hr : SB C sts fr) : SB C (st :: sts) fun ρ => seqR (fs ρ) fun ρ => fr ρ := fun ρ k q σ H E r ac => by
  refine WB.of (pss_cons WS.ps WB.pss) ?_
  have q : W (seqR (fs ρ) fun ρ => fr ρ) k C.kx := q
  rw [W_seq] at q
  refine h ρ _ q σ H _ r ⟨fun ρ1 σ1 H1 k1 r1 q1 => ?_, fun v nv ρ1 σ1 H1 k1 r1 ok q1 => ac.rt v nv ρ1 σ1 H1 k1 r1 ok q1, fun ρ1 σ1 H1 k1 r1 q1 => ac.bk ρ1 σ1 H1 k1 r1 q1, fun ρ1 σ1 H1 k1 r1 q1 => ac.ct ρ1 σ1 H1 k1 r1 q1⟩
  exact hr ρ1 k q1 σ1 H1 _ r1 (ac.kt k1)
theorem ss_ret (h : SE C e fa) : SS C (.Return (some e) pos) fun ρ => R.bind (fa ρ) fun v ρ => .ok (.rt v) ρ := fun ρ k q σ H E r ac => by
  refine WS.of (ps_ret WE.pe) ?_
  show WE C.X e σ H _
  rw [W_bind] at q
  exact h ρ _ q σ H _ r fun v nv ρ1 H1 k1 r1 ok h1 => ac.rt v nv ρ1 σ H1 k1 r1 ok h1
theorem ss_expr (h : SE C e fa) (hs : swapsWith e none pos.line C.X.env = pure false) : SS C (.Expr e pos) fun ρ => R.bind (fa ρ) fun _ ρ => .ok .nx ρ := fun ρ k q σ H E r ac => by
  refine WS.of (ps_expr WE.pe hs) ?_
  show WE C.X e σ H _
  rw [W_bind] at q
  exact h ρ _ q σ H _ r fun v nv ρ1 H1 k1 r1 ok h1 => ac.nx ρ1 σ H1 k1 r1 h1
theorem ss_if (h : ST C c fun ρ => R.bind (fa ρ) asBool) (ha : SB C sa ga) (hb : SB C sb gb) : SS C (.If c sa sb pos) fun ρ => R.bind (fa ρ) fun v ρ => R.bind (asBool v ρ) fun t ρ => R.cond t (ga ρ) (gb ρ) := fun ρ k q σ H E r ac => by
  refine WS.of (ps_if WT.pt WB.pss WB.pss) ?_
  show WT C.X c σ H _
  refine h ρ (fun t ρ => W (R.cond t (ga ρ) (gb ρ)) k C.kx) ?_ σ H _ r fun t ρ1 H1 k1 r1 h1 => ?_
  · rw [W_bind] at q ⊢
    exact q.mono (fun x ρ h => by rw [W_bind] at h; exact h) fun _ _ h => h
  · cases t with
    | true => exact iteT (ha ρ1 k h1 σ H1 E r1 (ac.kt k1))
    | false => exact iteF (hb ρ1 k h1 σ H1 E r1 (ac.kt k1))
theorem ss_pass : SS C (.Pass pos) fun ρ => .ok .nx ρ := fun ρ k q σ H E r ac => WS.of ps_pass (ac.nx ρ σ H (KT.refl H) r q)
theorem ss_brk : SS C (.Break pos) fun ρ => .ok .bk ρ := fun ρ k q σ H E r ac => WS.of ps_break (ac.bk ρ σ H (KT.refl H) r q)
theorem ss_cnt : SS C (.Continue pos) fun ρ => .ok .ct ρ := fun ρ k q σ H E r ac => WS.of ps_continue (ac.ct ρ σ H (KT.refl H) r q)
end
end SN
namespace SN
open PySem L2 NV
open DW (KT Ex Rp RpL WE WT WA WS WB Mp MpL DOp DOpL DCall DCallL WW DIx WI Wk pin pin_same pin_ne blkX WEb WTb)
section
variable {C : Cn} {ρ : Rho} {e a b c : Expr} {st : Stmt} {sts sa sb : List Stmt} {pos pos' : Pos} {fa : Rho → R NV} {H H' : Hp} {σ : St} {v : V} {nv : NV} {i : Nat} {x : Str}
/-- a value stored in slot i, told at the heap's side: freezing included -/
theorem sto_rs {X : Cx} {pins : List (Addr × Obj)} {s : Shared} {k : Unit → Rho → Prop} {Ex0 : Exc → Rho → Prop} (hX : X.K = C.X.K) (I : Inv X pins (σ.set i (some v)) H s) (r : C.Rs ρ σ H) (ok : NvOk C.b ρ σ H v nv) (w : W (sto i nv ρ) k Ex0) :
    ∃ ρ' H', Inv X pins (σ.set i (some v)) H' s ∧ KT H H' ∧ C.Rs ρ' (σ.set i (some v)) H' ∧ k () ρ' := by
  cases nv with
  | dat d =>
    have w : W (R.chk (!isBor ρ[i]?) (.ok () (ρ.set i (.dat d)))) k Ex0 := w
    rw [W_chk] at w
    obtain ⟨s0, hs, hl⟩ := bor_lent w.1
    exact ⟨_, H, I, KT.refl H, r.setD hs hl ok, w.2⟩
  | lst ds =>
    have w : W (R.chk (!isBor ρ[i]?) (.ok () (ρ.set i (.own false ds)))) k Ex0 := w
    rw [W_chk] at w
    obtain ⟨s0, hs, hl⟩ := bor_lent w.1
    obtain ⟨p, vs, rfl, n, h1, h2⟩ := ok
    exact ⟨_, H, I, KT.refl H, r.setO hs hl n h1 h2, w.2⟩
  | dic ds =>
    have w : W (R.chk (!isBor ρ[i]?) (.ok () (ρ.set i (.dic false ds)))) k Ex0 := w
    rw [W_chk] at w
    obtain ⟨s0, hs, hl⟩ := bor_lent w.1
    obtain ⟨p, vs, rfl, n, h1, h2⟩ := ok
    exact ⟨_, H, I, KT.refl H, r.setK hs hl n h1 h2, w.2⟩
  | ali j =>
    have w : W (R.bind (NV.esc (.ali j) ρ) fun d ρ => R.chk (!isBor ρ[i]?) (.ok () (ρ.set i (.dat d)))) k Ex0 := w
    rw [W_bind] at w
    obtain ⟨hv, sv, hs, _, _⟩ := ok
    have w : W (match ρ[j]? with | some (.own b ds) => R.chk (!b) (.ok (.list ds) (ρ.set j (.dat (.list ds)))) | _ => .bad : R PyData) (fun d ρ => W (R.chk (!isBor ρ[i]?) (.ok () (ρ.set i (.dat d)))) k Ex0) Ex0 := w
    rw [hs] at w
    cases sv with
    | own b ds =>
      cases b with
      | true => exact w.elim
      | false =>
        have w : W (R.chk (!isBor (ρ.set j (.dat (.list ds)))[i]?) (.ok () ((ρ.set j (.dat (.list ds))).set i (.dat (.list ds))))) k Ex0 := w
        rw [W_chk] at w
        obtain ⟨l, vs, h1, h2, h3, _⟩ := r.own hs
        rw [hv] at h1
        cases h1
        obtain ⟨o, I'⟩ := freezeL I h2
        have rp := frz_lst (C := C.b) (o := o) h2 h3
        have r2 : C.Rs (ρ.set j (.dat (.list ds))) σ (upd H l (.frz o (.lst vs))) := r.put (s' := .dat (.list ds)) hs rfl hv (Chg.lst h2) ⟨_, rfl, rp⟩ rfl (fun z => nomatch z)
        obtain ⟨s0, hs0, hl⟩ := bor_lent w.1
        exact ⟨_, _, I', (Chg.lst h2).kt, r2.setD hs0 hl rp, w.2⟩
    | _ => exact w.elim
theorem ss_asg (h : SE C e fa) (hN : C.X.N.Nodup) (hi : C.X.N[i]? = some x) (hx : Loc C.X.env.scope x) (hs : swapsWith e (some (.Name x pos')) pos.line C.X.env = pure false) (hf : C.X.fn x = true ∨ C.X.env.scope.names.lookup x = some .local) :
    SS C (.Assign [.Name x pos'] e pos) fun ρ => R.bind (fa ρ) fun v ρ => R.bind (sto i v ρ) fun _ ρ => .ok .nx ρ := fun ρ k q σ H E r ac => by
  have q : W (R.bind (fa ρ) fun v ρ => R.bind (sto i v ρ) fun _ ρ => .ok .nx ρ) k C.kx := q
  rw [W_bind] at q
  have base : WS C.X (.Assign [.Name x pos'] e pos) { nx := fun τ H' => ∃ v nv ρ1 H1, τ = σ.set i (some v) ∧ H' = H1 ∧ KT H H1 ∧ C.Rs ρ1 σ H1 ∧ NvOk C.b ρ1 σ H1 v nv ∧ W (R.bind (sto i nv ρ1) fun _ ρ => .ok .nx ρ) k C.kx, rt := E.rt, bk := E.bk, ct := E.ct } σ H := by
    refine WS.of (ps_set hN hi hx WE.pe hs hf) ?_
    show WE C.X e σ H _
    exact h ρ _ q σ H _ r fun v nv ρ1 H1 k1 r1 ok h1 => ⟨v, nv, ρ1, H1, rfl, rfl, k1, r1, ok, h1⟩
  refine DW.WS.thn base (fun pins s τ H' I hq => ?_) rfl rfl rfl
  obtain ⟨v, nv, ρ1, H1, rfl, rfl, k1, r1, ok, h1⟩ := hq
  rw [W_bind] at h1
  obtain ⟨ρ', H'', I', kt, r', w'⟩ := sto_rs rfl I r1 ok h1
  exact ⟨_, H'', I', ac.nx ρ' _ H'' (k1.trans kt) r' w'⟩
end
end SN
namespace SN
open PySem L2 NV
open DW (KT Ex Rp RpL WE WT WA WS WB Mp MpL DOp DOpL DCall DCallL WW DIx WI Wk pin pin_same pin_ne blkX WEb WTb)
section
variable {C : Cn} {ρ : Rho} {e a b c tg iter : Expr} {body : List Stmt} {pos pos' : Pos} {tc : Rho → R Bool} {fb : Rho → R Fl} {H H' : Hp} {σ : St} {g : TG} {t : Tg} {fi : Rho → R (List PyData)}
theorem ss_while (hp : PassesOwn (model C.X.prog C.X.w) C.X.A C.X.env C.X.xe) (hc : ST C c tc) (hb : SB C body fb) : SS C (.While c body [] pos) fun ρ => whlR (fun ρ => tc ρ) (fun ρ => fb ρ) .t .t FU ρ := fun ρ k q σ H E r ac => by
  refine WS.of (ps_while hp WT.pt WB.pss) ?_
  refine ⟨fun m σ2 H2 => ∃ ρ2, W (whlR (fun ρ => tc ρ) (fun ρ => fb ρ) .t .t m ρ2) k C.kx ∧ C.Rs ρ2 σ2 H2 ∧ KT H H2, ⟨FU, ρ, q, r, KT.refl H⟩, ?_⟩
  rintro m σ2 H2 ⟨ρ2, w, r2, k2⟩
  cases m with
  | zero => exact w.elim
  | succ m =>
    rw [whlR, W_bind] at w
    show WT C.X c σ2 H2 _
    refine hc ρ2 _ w σ2 H2 _ r2 fun t ρ3 H3 k3 r3 w3 => ?_
    cases t with
    | false =>
      refine iteF ?_
      exact ac.nx ρ3 σ2 H3 (k2.trans k3) r3 w3
    | true =>
      refine iteT ⟨fun σ3 H3 => ∃ m', m' < m + 1 ∧ ∃ ρ3, W (whlR (fun ρ => tc ρ) (fun ρ => fb ρ) .t .t m' ρ3) k C.kx ∧ C.Rs ρ3 σ3 H3 ∧ KT H H3, fun _ _ z => z, ?_⟩
      have w3 : W (R.bind (fb ρ3) fun fl ρ => match fl with | .nx => whlR (fun ρ => tc ρ) (fun ρ => fb ρ) .t .t m ρ | .ct => whlR (fun ρ => tc ρ) (fun ρ => fb ρ) .t .t m ρ | .bk => .ok .nx ρ | .rt v => .ok (.rt v) ρ) k C.kx := w3
      rw [W_bind] at w3
      have k23 := k2.trans k3
      refine hb ρ3 _ w3 σ2 H3 _ r3 ⟨fun ρ4 σ4 H4 k4 r4 w4 => ⟨m, Nat.lt_succ_self m, ρ4, w4, r4, k23.trans k4⟩, fun v nv ρ4 σ4 H4 k4 r4 ok w4 => ac.rt v nv ρ4 σ4 H4 (k23.trans k4) r4 ok w4, fun ρ4 σ4 H4 k4 r4 w4 => ac.nx ρ4 σ4 H4 (k23.trans k4) r4 w4, fun ρ4 σ4 H4 k4 r4 w4 => ⟨m, Nat.lt_succ_self m, ρ4, w4, r4, k23.trans k4⟩⟩
theorem ss_for (hp : PassesOwn (model C.X.prog C.X.w) C.X.A C.X.env C.X.xe) (hc : C.X.calm = true) (hs : ∀ x, foldedSetIterable iter C.X.env x = pure x) (hi : SI C tg iter fi) (hpg : PG C.X tg g) (hg : TgOk C.X.K g t) (hb : SB C body fb) : SS C (.For tg iter body [] pos) fun ρ => R.bind (fi ρ) fun ds ρ => forR t (fun ρ => fb ρ) .t ds ρ := fun ρ k q σ H E r ac => by
  refine WS.of (ps_for hp hc DW.WI.pi hpg WB.pss hs) ?_
  have q : W (R.bind (fi ρ) fun ds ρ => forR t (fun ρ => fb ρ) .t ds ρ) k C.kx := q
  rw [W_bind] at q
  refine hi ρ _ q σ H _ r fun J ds ρ1 H1 k1 r1 w h1 => ?_
  refine ⟨fun i m σ' H' => i + m = ds.length ∧ ∃ ρ', W (forR t (fun ρ => fb ρ) .t (ds.drop i) ρ') k C.kx ∧ C.Rs ρ' σ' H' ∧ KT H1 H', ⟨ds.length, Nat.zero_add _, ρ1, h1, r1, KT.refl H1⟩, fun i m σ2 H2 ⟨em, ρ2, i2, r2, k2⟩ => ?_⟩
  by_cases hil : i < ds.length
  · refine .inr ⟨w.go H2 i k2 hil, fun σ3 H3 => ∃ ρ3, W (forR t (fun ρ => fb ρ) .t (ds.drop (i + 1)) ρ3) k C.kx ∧ C.Rs ρ3 σ3 H3 ∧ KT H1 H3, fun σ3 H3 z => ⟨m - 1, by omega, by omega, z⟩, fun x H3 hy => ?_⟩
    obtain ⟨ex, hx⟩ := w.yld H2 i x H3 k2 hy
    rw [List.drop_eq_getElem_cons hil, forR, W_bind] at i2
    refine hg C.b ρ2 σ2 H3 x ds[i] _ C.kx _ rfl (r2.ex ex) (hx _ (List.getElem?_eq_getElem hil)) i2 fun ρ4 σ4 r4 w4 _ _ => ?_
    rw [W_bind] at w4
    have k3 := k2.trans ex.kt
    exact hb ρ4 _ w4 σ4 H3 _ r4 ⟨fun ρ5 σ5 H5 k5 r5 q5 => ⟨ρ5, q5, r5, k3.trans k5⟩, fun v nv ρ5 σ5 H5 k5 r5 ok q5 => ac.rt v nv ρ5 σ5 H5 ((k1.trans k3).trans k5) r5 ok q5, fun ρ5 σ5 H5 k5 r5 q5 => ac.nx ρ5 σ5 H5 ((k1.trans k3).trans k5) r5 q5, fun ρ5 σ5 H5 k5 r5 q5 => ⟨ρ5, q5, r5, k3.trans k5⟩⟩
  · have e : i = ds.length := by omega
    subst e
    rw [List.drop_length, forR] at i2
    exact .inl ⟨w.stop H2 k2, ac.nx ρ2 σ2 H2 (k1.trans k2) r2 i2⟩
end
end SN
namespace SN
open PySem L2 NV
open DW (KT Ex Rp RpL WE WT WA WS WB Mp MpL DOp DOpL DCall DCallL WW DIx WI Wk pin pin_same pin_ne blkX WEb WTb)
/-- what is raised here -/
def Cn.xk (C : Cn) (σ : St) : XK := fun cls d H' => ∃ x ρ, ExcOk C.X.K C.X.mg H' x cls d ∧ C.Rs ρ σ H' ∧ C.kx x ρ
section
variable {X : Cx} {kk : Nat} {f : Addr} {fd : FuncData} {ps : List Str} {sp : Sp} {pins : List (Addr × Obj)} {s : Shared} {Q : VK} {us : List Value} {vs : List V} {σ : St} {H : Hp} {e : Expr} {es : List Expr} {p pos : Pos}
theorem run_fnX {E : XK} (F : FnX X.prog X.w X.K X.mg X.base kk f fd ps sp) (hr : Room kk X.A) (hgd : X.A.guards = some []) (hb : Binds X.K fd ps []) (hx : PassesAt (L2.CX X.prog X.w) X σ E) (I : Inv X pins σ H s) (r : Vals vs us) (h : sp vs H Q E) :
    wpAny (model X.prog X.w) X.A (call (.ref f) us) (EP X pins σ Q) X.xe s := by
  have hl : (us ++ []).length = ps.length := by rw [List.append_nil, ← r.length]; exact F.len _ _ _ _ h
  have hbb := hb s us I.kIn hl
  rw [List.append_nil] at hbb
  refine wpAny_call (codeAny_mono (F.run X.A X.stack s H ⟨us, []⟩ us vs Q E hr hgd I.env0 hbb r h) ?_)
  intro rs s' hq
  match rs, hq with
  | .error e, hq => exact hx pins H s e s' I hq
  | .ok (.ret u), hq => exact I.after hq
  | .ok .next, hq => exact hq.elim
  | .ok .brk, hq => exact hq.elim
  | .ok .cont, hq => exact hq.elim
theorem pe_callX {E : St → XK} {x : Str} {t : TA} (F : FnX X.prog X.w X.K X.mg X.base kk f fd ps sp) (hr : Room kk X.A) (hgd : X.A.guards = some []) (hg : Gl X x) (hm : X.mg x = some (.ref f))
    (hk : PySem.W.keepIn X.K (.ref f) = true) (hb : Binds X.K fd ps []) (hx : ∀ σ, PassesAt (L2.CX X.prog X.w) X σ (E σ)) (ha : PA X (e :: es) t) (hdb : (x == ("__debug__" : Str)) = false)
    (he : starEach (e :: es) X.env = (false, eval e X.env) :: starEach es X.env) (hpl : (backTo pos (starEach es X.env)).any (·.1) = false) :
    PE X (.Call (.Name x p) (e :: es) [] pos) (fun σ H Q => t σ H fun vs H1 => sp vs H1 Q (E σ)) := by
  constructor
  intro pins s σ H Q I h
  refine wpAny_Call_Name_kw (ld_glob I hg hm ?_ hdb)
  refine PySem.W.callWith_K (h₀ := X.base) I.ok.mod.kin hk (thn (ha.run pos pins s σ H _ I h) ?_) he hpl
  rintro us s1 ⟨vs, H1, I1, r, q⟩
  exact ⟨I1.kIn, run_fnX F hr hgd hb (hx σ) I1 r q⟩
end
section
variable {C : Cn} {ρ : Rho} {e a b c : Expr} {es : List Expr} {pos p : Pos} {fa : Rho → R NV} {fs : Rho → R (List NV)} {x : Str}
def DAa (C : Cn) (ρ : Rho) (es : List Expr) (k : List NV → Rho → Prop) : Prop :=
  ∀ σ H (Q : List V → Hp → Prop), C.Rs ρ σ H → (∀ vs nvs ρ' H', KT H H' → C.Rs ρ' σ H' → NasOk C.b ρ' σ H' vs nvs → k nvs ρ' → Q vs H') → WA C.X es σ H Q
def SAa (C : Cn) (es : List Expr) (f : Rho → R (List NV)) : Prop := ∀ ρ k, W (f ρ) k C.kx → DAa C ρ es k
theorem saa_nil : SAa C [] fun ρ => .ok [] ρ := fun ρ k q σ H Q r g => WA.of pa_nil (g [] [] ρ H (KT.refl H) r .nil q)
theorem saa_last (h : SE C e fa) (he : starEach [e] C.X.env = [(false, eval e C.X.env)]) : SAa C [e] fun ρ => R.bind (fa ρ) fun v ρ => .ok [v] ρ := fun ρ k q σ H Q r g => by
  refine WA.of (pa_cons WE.pe pa_nil he) ?_
  show WE C.X e σ H _
  have q : W (R.bind (fa ρ) fun v ρ => .ok [v] ρ) k C.kx := q
  rw [W_bind] at q
  exact h ρ _ q σ H _ r fun v nv ρ1 H1 k1 r1 ok h1 => g [v] [nv] ρ1 H1 k1 r1 (.last ok) h1
theorem saa_lent (h : SE C e fa) (hs : SAa C es fs) (he : starEach (e :: es) C.X.env = (false, eval e C.X.env) :: starEach es C.X.env) :
    SAa C (e :: es) fun ρ => R.bind (fa ρ) fun v ρ => R.bind (fzR v ρ) fun v ρ => R.bind (fs ρ) fun r ρ => .ok (v :: r) ρ := fun ρ k q σ H Q r g => by
  refine WA.of (pa_cons WE.pe WA.pa he) ?_
  show WE C.X e σ H _
  have q : W (R.bind (fa ρ) fun v ρ => R.bind (fzR v ρ) fun v ρ => R.bind (fs ρ) fun r ρ => .ok (v :: r) ρ) k C.kx := q
  rw [W_bind] at q
  refine h.df q σ H _ r fun v nv ρ1 H1 k1 r1 ok h1 => ?_
  show WA C.X es σ H1 _
  rw [W_bind] at h1
  cases nv with
  | dat d =>
    have h1 : W (R.bind (fs ρ1) fun r ρ => .ok (NV.dat d :: r) ρ) k C.kx := h1
    rw [W_bind] at h1
    exact hs ρ1 _ h1 σ H1 _ r1 fun vs nvs ρ2 H2 k2 r2 o2 h2 => g _ _ ρ2 H2 (k1.trans k2) r2 (.dat (Rp.kt k2 ok) o2) h2
  | lst ds =>
    have h1 : W (R.bind (fs ρ1) fun r ρ => .ok (NV.dat (.list ds) :: r) ρ) k C.kx := h1
    rw [W_bind] at h1
    exact hs ρ1 _ h1 σ H1 _ r1 fun vs nvs ρ2 H2 k2 r2 o2 h2 => g _ _ ρ2 H2 (k1.trans k2) r2 (.dat (Rp.kt k2 ok) o2) h2
  | dic kvs => exact h1.elim
  | ali i =>
    have h1 : W (R.bind (fs ρ1) fun r ρ => .ok (NV.ali i :: r) ρ) k C.kx := h1
    rw [W_bind] at h1
    exact hs ρ1 _ h1 σ H1 _ r1 fun vs nvs ρ2 H2 k2 r2 o2 h2 => g _ _ ρ2 H2 (k1.trans k2) r2 (.ali ok o2) h2
theorem saa_dat (h : SE C e fa) (hs : SAa C es fs) (he : starEach (e :: es) C.X.env = (false, eval e C.X.env) :: starEach es C.X.env) :
    SAa C (e :: es) fun ρ => R.bind (fa ρ) fun v ρ => R.bind (esc v ρ) fun d ρ => R.bind (fs ρ) fun r ρ => .ok (.dat d :: r) ρ := fun ρ k q σ H Q r g => by
  refine WA.of (pa_cons WE.pe WA.pa he) ?_
  show WE C.X e σ H _
  have q : W (R.bind (fa ρ) fun v ρ => R.bind (esc v ρ) fun d ρ => R.bind (fs ρ) fun r ρ => .ok (NV.dat d :: r) ρ) k C.kx := q
  refine h.esc (k := fun d ρ => W (R.bind (fs ρ) fun r ρ => .ok (NV.dat d :: r) ρ) k C.kx) ?_ σ H _ r fun v d ρ1 H1 k1 r1 o1 h1 => ?_
  · rw [W_bind] at q ⊢
    exact q.mono (fun x ρ h => by rw [W_bind] at h; exact h) fun _ _ h => h
  show WA C.X es σ H1 _
  have h1 : W (R.bind (fs ρ1) fun r ρ => .ok (NV.dat d :: r) ρ) k C.kx := h1
  rw [W_bind] at h1
  exact hs ρ1 _ h1 σ H1 _ r1 fun vs nvs ρ2 H2 k2 r2 o2 h2 => g _ _ ρ2 H2 (k1.trans k2) r2 (.dat (Rp.kt k2 o1) o2) h2
/-- what a call of x is worth -/
abbrev fsOf (Φ : Calls) (x : Str) : FS := fun avs R Rx => W (Φ x avs) R Rx
/-- a def that may be called here -/
structure CalX (X : Cx) (x : Str) (fs : FS) : Prop where
  ex : ∃ (k : Nat) (f : Addr) (fd : FuncData) (ps : List Str), FnX X.prog X.w X.K X.mg X.base k f fd ps (spOf X.K X.mg fs) ∧ Room k X.A ∧ X.A.guards = some [] ∧ X.mg x = some (.ref f) ∧ PySem.W.keepIn X.K (.ref f) = true ∧ Binds X.K fd ps []
theorem se_call {Φ : Calls} (F : CalX C.X x (fsOf Φ x)) (hg : Gl C.X x) (hx : ∀ σ, PassesAt (L2.CX C.X.prog C.X.w) C.X σ (C.xk σ)) (h : SAa C (e :: es) fs) (hdb : (x == ("__debug__" : Str)) = false)
    (he : starEach (e :: es) C.X.env = (false, eval e C.X.env) :: starEach es C.X.env) (hpl : (backTo pos (starEach es C.X.env)).any (·.1) = false) :
    SE C (.Call (.Name x p) (e :: es) [] pos) fun ρ => R.bind (fs ρ) fun vs ρ => callR Φ x vs ρ := fun ρ k q σ H Q r g => by
  obtain ⟨kk, f, fd, ps, F, hr, hgd, hm, hk, hb⟩ := F.ex
  refine WE.of (pe_callX F hr hgd hg hm hk hb hx WA.pa hdb he hpl) ?_
  show WA C.X (e :: es) σ H _
  have q : W (R.bind (fs ρ) fun vs ρ => callR Φ x vs ρ) k C.kx := q
  rw [W_bind] at q
  refine h ρ _ q σ H _ r fun vs nvs ρ1 H1 k1 r1 o1 h1 => ?_
  unfold callR at h1
  rw [W_chk, Bool.and_eq_true] at h1
  obtain ⟨⟨hn, hav⟩, h1⟩ := h1
  obtain ⟨B, ha, src⟩ := args_of r1 o1 hn hav
  refine ⟨nvs.map (avOf ρ1), B, fun nv fin => k nv (wback nvs fin ρ1), fun x fin => C.kx x (wback nvs fin ρ1), ha, ?_, fun v nv fin H2 fr ret fo hR => ?_, fun x fin cls d H2 fr eo fo hR => ?_⟩
  · show W (Φ x (nvs.map (avOf ρ1))) _ _
    cases hΦ : Φ x (nvs.map (avOf ρ1)) with
    | ok v fin => rw [hΦ] at h1; exact h1
    | exc y fin => rw [hΦ] at h1; exact h1
    | bad => rw [hΦ] at h1; exact h1
  · refine g v nv _ H2 (k1.trans fr.kt) (rs_after r1 ha src hn fr fo) ?_ hR
    cases nv with
    | dat d => exact ret
    | lst ds =>
      obtain ⟨p, ws, e1, e2, e3, e4⟩ := ret
      exact ⟨p, ws, e1, new_after r1 ha src hn fr fo e2, e3, e4⟩
    | dic ds =>
      obtain ⟨p, ws, e1, e2, e3, e4⟩ := ret
      exact ⟨p, ws, e1, new_after r1 ha src hn fr fo e2, e3, e4⟩
    | ali i => exact ret.elim
  · exact ⟨x, _, eo, rs_after r1 ha src hn fr fo, hR⟩
end
end SN
namespace SN
open PySem L2 NV
open DW (KT Ex Rp RpL WE WT WA WS WB Mp MpL DOp DOpL DCall DCallL WW DIx WI Wk pin pin_same pin_ne blkX WEb WTb)
/-! ### what comes back from a def -/
section
variable {C : Cb} {ρ : Rho} {σ : St} {H : Hp} {np : Nat}
theorem Rs.lentAt {i : Nat} {sv : SV} (r : Rs C ρ σ H) (h : ρ[i]? = some sv) (hl : lent sv = true) : ∃ l, C.B[i]? = some (some l) ∧ OwnAt C.K H l sv := by
  cases sv with
  | own b ds =>
    cases b with
    | false => cases hl
    | true =>
      obtain ⟨l, vs, _, h2, h3, _, h5⟩ := r.own h
      exact ⟨l, h5 rfl, vs, h2, h3⟩
  | dic b ds =>
    cases b with
    | false => cases hl
    | true =>
      obtain ⟨l, vs, _, h2, h3, _, h5⟩ := r.dic h
      exact ⟨l, h5 rfl, vs, h2, h3⟩
  | _ => cases hl
theorem Rs.fin (r : Rs C ρ σ H) (hB : C.B.length ≤ np) : FinOk C.K H C.B (ρ.take np) := by
  refine ⟨fun i l h => ?_, fun i sv h hl => ?_⟩
  · obtain ⟨⟨sv, h1, h2⟩, _⟩ := r.bo i l h
    have hi : i < np := Nat.lt_of_lt_of_le (List.getElem?_eq_some_iff.mp h).1 hB
    obtain ⟨l', h3, h4⟩ := r.lentAt h1 h2
    rw [h] at h3
    cases h3
    exact ⟨sv, by rw [List.getElem?_take_of_lt hi]; exact h1, h2, h4⟩
  · have hi : i < np := by
      have := (List.getElem?_eq_some_iff.mp h).1
      rw [List.length_take] at this
      omega
    rw [List.getElem?_take_of_lt hi] at h
    obtain ⟨l', h3, _⟩ := r.lentAt h hl
    exact ⟨l', h3⟩
theorem Rs.finNo {j : Nat} {s : SV} (r : Rs C ρ σ H) (hj : ρ[j]? = some s) (hs : lent s = false) (hB : C.B.length ≤ np) : FinOk C.K H C.B ((ρ.set j .no).take np) := by
  have f := r.fin (np := np) hB
  refine ⟨fun i l h => ?_, fun i sv h hl => ?_⟩
  · obtain ⟨sv, h1, h2, h3⟩ := f.at_ i l h
    have hi : i < np := Nat.lt_of_lt_of_le (List.getElem?_eq_some_iff.mp h).1 hB
    rw [List.getElem?_take_of_lt hi] at h1
    refine ⟨sv, ?_, h2, h3⟩
    have e : j ≠ i := fun e => by
      subst e
      rw [hj] at h1
      cases h1
      rw [hs] at h2
      cases h2
    rw [List.getElem?_take_of_lt hi, List.getElem?_set_ne e]
    exact h1
  · have hi : i < np := by
      have := (List.getElem?_eq_some_iff.mp h).1
      rw [List.length_take] at this
      omega
    rw [List.getElem?_take_of_lt hi] at h
    rcases get_set h with ⟨rfl, rfl, _⟩ | ⟨_, h⟩
    · cases hl
    · obtain ⟨l', h3, _⟩ := r.lentAt h hl
      exact ⟨l', h3⟩
end
/-! ### a def by its body -/
/-- the context of a def's body -/
abbrev bodyC (P : Program) (w : World) (K : PySem.W.Frag) (mg : Str → Option Value) (base : Heap) (N : List Str) (qual : Str) (st : Stmt) (f : Addr) (cdv : Value) (A : Around) (outer : List Env) (s : Shared) (H : Hp) (E : XK) (B : List (Option Addr)) (kx : Exc → Rho → Prop) : Cn :=
  ⟨fcx P w K mg base N qual st f cdv A outer s H E, H, B, fun _ _ _ => False, H, kx⟩
/-- a call, by the body -/
def callB (np nl : Nat) (body : Rho → R Fl) (avs : List SV) : R NV := R.chk (decide (avs.length = np)) (match body (avs ++ List.replicate (nl - np) .no) with
    | .exc x ρ => .exc x (ρ.take np)
    | m => retR np m)
theorem fn_ok {P : Program} {w : World} {K : PySem.W.Frag} {mg : Str → Option Value} {base : Heap} {x qual : Str} {st : Stmt} {f : Addr} {fd : FuncData} {N ps : List Str} {k : Nat} {body : Rho → R Fl} (F : Fun K x qual st f fd) (S : FnScope N ps (defScope st))
    (hb : ∀ (cdv : Value) (A : Around) (outer : List Env) (s : Shared) (H : Hp) (E : XK) (B : List (Option Addr)) (kx : Exc → Rho → Prop), Room k (A.deeper (PyProof.Rows.envOfC qual (defScope st) s.heap.objs.size f cdv)) → A.guards = some [] →
      Takes (fcx P w K mg base N qual st f cdv A outer s H E) (fun cls d σ H' => (bodyC P w K mg base N qual st f cdv A outer s H E B kx).xk σ cls d H') →
      SB (bodyC P w K mg base N qual st f cdv A outer s H E B kx) (defBody st) body) :
    FnX P w K mg base (k + 1) f fd ps (spOf K mg fun avs R Rx => W (callB ps.length N.length body avs) R Rx) := by
  have hN : ps.length ≤ N.length := by
    have := congrArg List.length S.pre
    rw [List.length_take] at this
    omega
  refine fnX_of F S (fun vs H Q E h => ?_) (fun cdv A outer s H vs Q E hr hgd h => ?_)
  · obtain ⟨avs, B, R, Rx, ha, hf, _⟩ := h
    unfold callB at hf
    rw [W_chk] at hf
    rw [ha.length.1]
    exact of_decide_eq_true hf.1
  · obtain ⟨avs, B, R, Rx, ha, hf, hq, hx⟩ := h
    unfold callB at hf
    rw [W_chk] at hf
    obtain ⟨hl, hf⟩ := hf
    have hl := of_decide_eq_true hl
    have hB : B.length ≤ ps.length := by rw [ha.length.2, hl]; exact Nat.le_refl _
    have tk : Takes (fcx P w K mg base N qual st f cdv A outer s H E) (fun cls d σ H' => (bodyC P w K mg base N qual st f cdv A outer s H E B fun y ρ => Rx y (ρ.take ps.length)).xk σ cls d H') := by
      refine Takes.imp (takes_of (E := E) rfl rfl rfl rfl) fun cls d σ H' h => ?_
      obtain ⟨y, ρ, h1, h2, h3⟩ := h
      exact hx y _ cls d H' h2.fr h1 (h2.fin (np := ps.length) hB) h3
    have hs := rs_start (ex := fun _ _ _ => False) ha hl hN
    let kk : Fl → Rho → Prop := fun fl ρ => W (retR ps.length (.ok fl ρ)) R Rx
    refine hb cdv A outer s H E B (fun y ρ => Rx y (ρ.take ps.length)) hr hgd tk (avs ++ List.replicate (N.length - ps.length) SV.no) kk ?_ (L2.start N vs) H _ hs ⟨fun ρ σ H' _ r q => ?_, fun v nv ρ σ H' _ r ok q => ?_, fun ρ σ H' _ r q => ?_, fun ρ σ H' _ r q => ?_⟩
    · cases hm : body (avs ++ List.replicate (N.length - ps.length) .no) with
      | ok fl ρ => rw [hm] at hf; exact hf
      | exc y ρ => rw [hm] at hf; exact hf
      | bad => rw [hm] at hf; exact hf
    · exact hq .non (.dat .none) _ H' r.fr (show Rp K H' .non .none from Rp.non) (r.fin (np := ps.length) hB) q
    · cases nv with
      | dat d => exact hq v (.dat d) _ H' r.fr ok (r.fin (np := ps.length) hB) q
      | lst ds =>
        obtain ⟨p, ws, e1, e2, e3, e4⟩ := ok
        exact hq v (.lst ds) _ H' r.fr ⟨p, ws, e1, e2.e, e3, e4⟩ (r.fin (np := ps.length) hB) q
      | dic ds =>
        obtain ⟨p, ws, e1, e2, e3, e4⟩ := ok
        exact hq v (.dic ds) _ H' r.fr ⟨p, ws, e1, e2.e, e3, e4⟩ (r.fin (np := ps.length) hB) q
      | ali i =>
        obtain ⟨hv, sv, hs, _, _⟩ := ok
        have q : W (match ρ[i]? with | some (.own false ds) => .ok (.lst ds) ((ρ.set i .no).take ps.length) | some (.dic false kvs) => .ok (.dic kvs) ((ρ.set i .no).take ps.length) | _ => .bad : NV.R NV.NV) R Rx := q
        rw [hs] at q
        cases sv with
        | own b ds =>
          cases b with
          | true => exact q.elim
          | false =>
            obtain ⟨l, ws, h1, h2, h3, h4, _⟩ := r.own hs
            rw [hv] at h1
            cases h1
            exact hq _ (.lst ds) _ H' r.fr ⟨l, ws, rfl, h4 rfl, h2, h3⟩ (r.finNo hs rfl hB) q
        | dic b ds =>
          cases b with
          | true => exact q.elim
          | false =>
            obtain ⟨l, ws, h1, h2, h3, h4, _⟩ := r.dic hs
            rw [hv] at h1
            cases h1
            exact hq _ (.dic ds) _ H' r.fr ⟨l, ws, rfl, h4 rfl, h2, h3⟩ (r.finNo hs rfl hB) q
        | _ => exact q.elim
    · exact q.elim
    · exact q.elim
/-- no call is worth nothing: nothing is asked -/
theorem fnX_bad {P : Program} {w : World} {K : PySem.W.Frag} {mg : Str → Option Value} {base : Heap} {k : Nat} {f : Addr} {fd : FuncData} {ps : List Str} {fs : FS} (h : ∀ avs R Rx, ¬ fs avs R Rx) : FnX P w K mg base k f fd ps (spOf K mg fs) :=
  ⟨fun vs H Q E ⟨avs, B, R, Rx, _, hf, _⟩ => (h _ _ _ hf).elim, fun A outer s H args us vs Q E _ _ _ _ _ ⟨avs, B, R, Rx, _, hf, _⟩ => (h _ _ _ hf).elim⟩
end SN
/-! enumerate over a tuple -/
namespace SN
open PySem L2 PyProof.Rows
theorem meets_enumT (l : Addr) (items : Array Value) (n : Nat) (dct : Option Addr) (sl : Array (Option Value)) :
    Meets (Builtin.«enumerate.__new__» ⟨[.type "enumerate", .ref l], []⟩) (fun _ R s => s.heap.get? l = some { cls := .type "tuple", dict := dct, data := .seq items n, slots := sl } ∧
      R (.ok (.ret (.ref (s.heap.push { cls := .type "tuple_iterator", data := .fields #[.ref l, .int 0 0] }).objs.size)))
        { s with heap := (s.heap.push { cls := .type "tuple_iterator", data := .fields #[.ref l, .int 0 0] }).push { cls := .type "enumerate", data := .fields #[.none, .bool false, .ref s.heap.objs.size, rawInt 0, .none, .none] } }) :=
  .of_wp fun prog w A R s h => by
    obtain ⟨hp, g, d, tk, os⟩ := s; obtain ⟨hl, h⟩ := h
    have hsub := sub_enumerate
    have hL : Heap.IsTuple (Shared.heap ⟨hp, g, d, tk, os⟩) l items := ⟨_, hl, rfl, n, rfl⟩
    wp_walk using AutoSeq1.wpAny_loadPart' hl
    refine wpAny_stack_any fun st => wpAny_pure ?_
    split
    · rename_i c _ _ _ _ _
      cases (c == Value.type "enumerate")
      · wp_walk using AutoSeq1.wpAny_loadPart' hl, wpAny_pyIter_tuple hL
        exact ⟨_, rfl, h⟩
      · wp_walk using AutoSeq1.wpAny_loadPart' hl, wpAny_pyIter_tuple hL
        exact ⟨_, rfl, h⟩
    · wp_walk using AutoSeq1.wpAny_loadPart' hl, wpAny_pyIter_tuple hL
      exact ⟨_, rfl, h⟩
theorem call_enumT {prog : Program} {w : World} {A : Around} {E : Value → Shared → Prop} {s : Shared} {l : Addr} {items : Array Value} {Q : Value → Shared → Prop} (hL : s.heap.IsTuple l items)
    (h : ∀ h', IsEnum h' (s.heap.objs.size + 1) s.heap.objs.size 0 .none → h'.IsTupleIter s.heap.objs.size l 0 → h'.objs.size = s.heap.objs.size + 2 →
      (∀ b o, s.heap.get? b = some o → h'.get? b = some o) → Q (.ref (s.heap.objs.size + 1)) { s with heap := h' }) :
    wpAny (model prog w) A (call (.type "enumerate") [.ref l]) Q E s := by
  obtain ⟨⟨c, dct, dt, sl⟩, hl, hc, n, hd⟩ := hL
  replace hc : c = .type "tuple" := hc
  replace hd : dt = .seq items n := hd
  subst hc hd
  refine callType_new F.called_enumerate (by decide) (F.typeCall_enumerate_1 _) (F.newCall_enumerate_1 _) (fun obj => F.args_object_init_2 obj _) F.entry_enumerate_new
    (meets_enumT l items n dct sl) ⟨hl, ?_⟩
  have hz : (s.heap.push { cls := .type "tuple_iterator", data := .fields #[.ref l, .int 0 0] }).objs.size = s.heap.objs.size + 1 := Heap.size_push ..
  show _ ∧ _
  rw [hz]
  have he : IsEnum ((s.heap.push { cls := .type "tuple_iterator", data := .fields #[.ref l, .int 0 0] }).push
      { cls := .type "enumerate", data := .fields #[.none, .bool false, .ref s.heap.objs.size, rawInt 0, .none, .none] }) (s.heap.objs.size + 1) s.heap.objs.size 0 .none := by
    have := Heap.get?_push_size (s.heap.push { cls := .type "tuple_iterator", data := .fields #[.ref l, .int 0 0] })
      (o := { cls := .type "enumerate", data := .fields #[.none, .bool false, .ref s.heap.objs.size, rawInt 0, .none, .none] }) rfl
    rw [hz] at this; exact this
  refine ⟨⟨_, he, rfl⟩, h _ he ⟨_, Heap.get?_push_of_some _ (Heap.get?_push_size _ rfl), rfl, rfl⟩ (by rw [Heap.size_push, hz]) fun b o x => Heap.get?_push_of_some _ (Heap.get?_push_of_some _ x)⟩
/-- the tuple at a, each item in a new pair -/
def IteT (K : PySem.W.Frag) (a : Addr) : L2.It :=
  ⟨fun i H => ∃ (xs : List V) (x : V), SqT K H a xs ∧ xs[i]? = some x, fun i H v H' => ∃ T x, v = .ref T ∧ H T = none ∧ H' = L2.upd H T (.tup [.int (i : Nat), x]) ∧ ∀ xs, SqT K H a xs → xs[i]? = some x, fun i H => ∃ xs : List V, SqT K H a xs ∧ xs.length = i⟩
theorem enum_ne {h : Heap} {e it a : Addr} {i : Int} {old : Value} {items : Array Value} (he : IsEnum h e it i old) (ha : h.IsTuple a items) : e ≠ a := fun z => by
  subst z
  obtain ⟨o, ho, hc, _⟩ := ha
  rw [he] at ho
  cases ho
  have hc : Value.type "enumerate" = Value.type "tuple" := hc
  exact absurd hc (by decide)
theorem titer_ne {h : Heap} {it a : Addr} {i : Nat} {items : Array Value} (hi : h.IsTupleIter it a i) (ha : h.IsTuple a items) : a ≠ it := fun z => by
  subst z
  obtain ⟨o, ho, hc, n, hd⟩ := ha
  obtain ⟨o', ho', hc', hd'⟩ := hi
  rw [ho] at ho'
  cases ho'
  rw [hd] at hd'
  cases hd'
theorem turn_enumT {P : Program} {w : World} {K : PySem.W.Frag} {elts : List Expr} {kk : Nat} {tpos : Pos} (a e it : Addr) :
    Turn P w K (.Tuple elts kk tpos) (IteT K a) [e, it] e (fun i h => (∃ old, IsEnum h e it ((i : Nat) : Int) old) ∧ h.IsTupleIter it a i ∧ e ≠ it) where
  mem := by simp
  obj := fun i h st b hb => by
    obtain ⟨⟨old, he⟩, ⟨o, ho, hc, hd⟩, _⟩ := st
    have e' : b = e ∨ b = it := by simpa using hb
    rcases e' with z | z
    · rw [z]; exact ⟨_, he, fun v q => nomatch q⟩
    · rw [z]; exact ⟨o, ho, fun v q => by rw [hd] at q; cases q⟩
  keep := fun i h h' st k => let ⟨⟨old, he⟩, hi, hne⟩ := st; ⟨⟨old, k e (by simp) _ he⟩, hi.at fun o q => k it (by simp) o q, hne⟩
  item := by
    intro X hP hw hK hc i pins s σ H E I hf st hg
    subst hP hw hK
    obtain ⟨⟨old, he⟩, hit, hne⟩ := st
    obtain ⟨xs, x, hq, hx⟩ := hg
    obtain ⟨its, rv, p, hz⟩ := I.tuple hq
    obtain ⟨u, hu, ru⟩ := rv.get hx
    have hel : e < s.heap.objs.size := Heap.lt_size he
    have hil : it < s.heap.objs.size := by obtain ⟨_, q, _⟩ := hit; exact Heap.lt_size q
    have hp : s.heap.IsTuple a its.toArray := p
    have hh : X.A.in1.handled = none := I.ok.hd hc
    have D := Draws.tuple (prog := X.prog) (w := X.w) (A := X.A.in1) hh it a (titer_ne hit hp) its.toArray
    have hlt : i < its.toArray.size := by
      have := (List.getElem?_eq_some_iff.mp hu).1
      simpa using this
    refine wpAny_pyNext_enum_itemD D he ⟨hit, hp⟩ hlt hne (by simp [hne, enum_ne he hp]) fun u' h' tk hu' ho hst' hT hsz hk => ?_
    have hu'' : its[i]? = some u' := by simpa using hu'
    rw [hu] at hu''
    cases hu''
    refine ⟨_, rfl, wpAny_letOwnedTupleGo_enum (s := { s with heap := h', toks := tk + 1 }) ho fun h'' he' sb => ?_⟩
    have hT2 : h''.get? s.heap.objs.size = some { cls := .type "tuple", data := .seq #[.int i tk, u] } := (sb.2 _ (Nat.ne_of_gt hel)).trans hT
    have new : ObjOk X.prog X.w (L2.upd H s.heap.objs.size (.tup [.int (i : Nat), x])) h'' s.heap.objs.size (.tup [.int (i : Nat), x]) :=
      ⟨by show 2 ≤ sizeLine; decide, [.int i tk, u], .cons ⟨_, rfl⟩ (.cons ru .nil), ⟨_, hT2, rfl, _, rfl⟩⟩
    have I1 : Inv X pins σ (L2.upd H s.heap.objs.size (.tup [.int (i : Nat), x])) { s with heap := h'', toks := tk + 1 } :=
      I.turnedNew (ch := [e, it]) (fun b ob hb q => (sb.2 b (fun z => hb (by simp [z]))).trans (hk b ob (fun z => hb (by simp [z])) (fun z => hb (by simp [z])) q)) hf (Nat.le_refl _) new
    refine ⟨.ref s.heap.objs.size, _, I1, rfl, ⟨_, x, rfl, I.hok.fresh (Nat.le_refl _), rfl, fun ys hy => by rw [I.tuple_inj hy hq]; exact hx⟩, ⟨⟨u, ?_⟩, hst'.1.at fun o q => (sb.2 it (Ne.symm hne)).trans q, hne⟩, fun b hb => ?_⟩
    · have e1 : ((i + 1 : Nat) : Int) = (i : Int) + 1 := by omega
      rw [e1]; exact he'
    · have hb' : b < s.heap.objs.size := by
        have e' : b = e ∨ b = it := by simpa using hb
        rcases e' with z | z
        · rw [z]; exact hel
        · rw [z]; exact hil
      rw [upd_ne (Nat.ne_of_lt hb')]
      exact (hf b hb).1
  done := by
    intro X hP hw hK hc i pins s σ H E I hf st hg
    subst hP hw hK
    obtain ⟨⟨old, he⟩, hit, hne⟩ := st
    obtain ⟨xs, hq, hx⟩ := hg
    obtain ⟨its, rv, p, hz⟩ := I.tuple hq
    obtain ⟨f0, f1, f2, f3, f4, f5⟩ := hf it (by simp)
    have hl := rv.length
    have hp : s.heap.IsTuple a its.toArray := p
    have hh : X.A.in1.handled = none := I.ok.hd hc
    have D := Draws.tuple (prog := X.prog) (w := X.w) (A := X.A.in1) hh it a (titer_ne hit hp) its.toArray
    have hi : its.toArray.size = i := by simp; omega
    exact wpAny_pyNext_enum_endD D he ⟨by rw [hi]; exact hit, hp⟩ fun h' eb => ⟨rfl, I.turned (t' := s.toks) (fun b o hb q => eb b o hb q) f0 f1 f3 f4 f5⟩
  self := fun A i s Q E st h => let ⟨⟨_, he⟩, _⟩ := st; wpAny_pyIter_enum he h
def iEnumA (K : PySem.W.Frag) (ta : TA) : TI := fun σ H R => ta σ H fun vs H1 => (∃ a xs, vs = [.ref a] ∧ SqL K H1 a xs ∧ R (Ite K a) H1) ∨ ∃ a xs, vs = [.ref a] ∧ SqT K H1 a xs ∧ R (IteT K a) H1
theorem pi_enumA {X : Cx} {e : Expr} {ta : TA} {p pos tpos : Pos} {elts : List Expr} {kk : Nat} (hg : Gl X "enumerate") (hm : X.mg "enumerate" = none) (ha : PA X [e] ta) (hs : starEach [e] X.env = [(false, eval e X.env)]) :
    PI X (.Tuple elts kk tpos) (.Call (.Name "enumerate" p) [e] [] pos) (iEnumA X.K ta) := by
  refine ⟨fun pins s σ H R I h => ?_⟩
  refine Call_ (ld_blt I hg hm boot_enumerate (PyProof.Rows.callWith_type1 (thn (ha.run pos pins s σ H _ I h) fun us s1 ⟨vs, H1, I1, r1, q1⟩ => ?_) hs rfl))
  rcases q1 with ⟨a, xs, ex, hq, q⟩ | ⟨a, xs, ex, hq, q⟩
  · subst ex
    cases r1 with
    | cons r rr =>
      cases rr
      cases r
      obtain ⟨its, rv, p', hz⟩ := I1.list hq
      refine call_enumerate_list p'.isList fun h' he hit hsz hk => wpAny_pyIter_enum he ?_
      have I2 : Inv X pins σ H1 { s1 with heap := h' } := I1.kept (t' := s1.toks) hk
      refine ⟨s1.heap.objs.size + 1, [s1.heap.objs.size + 1, s1.heap.objs.size], _, _, H1, rfl, I2, turn_enum a (s1.heap.objs.size + 1) s1.heap.objs.size, ⟨⟨.none, he⟩, hit, Nat.succ_ne_self _⟩, fun b hb => ?_, q⟩
      have e' : b = s1.heap.objs.size + 1 ∨ b = s1.heap.objs.size := by simpa using hb
      have hle : s1.heap.objs.size ≤ b := by
        rcases e' with z | z
        · rw [z]; exact Nat.le_add_right _ _
        · rw [z]; exact Nat.le_refl _
      exact I1.fpOk hle (I1.hok.fresh hle)
  · subst ex
    cases r1 with
    | cons r rr =>
      cases rr
      cases r
      obtain ⟨its, rv, p', hz⟩ := I1.tuple hq
      refine call_enumT (show s1.heap.IsTuple a its.toArray from p') fun h' he hit hsz hk => wpAny_pyIter_enum he ?_
      have I2 : Inv X pins σ H1 { s1 with heap := h' } := I1.kept (t' := s1.toks) hk
      refine ⟨s1.heap.objs.size + 1, [s1.heap.objs.size + 1, s1.heap.objs.size], _, _, H1, rfl, I2, turn_enumT a (s1.heap.objs.size + 1) s1.heap.objs.size, ⟨⟨.none, he⟩, hit, Nat.succ_ne_self _⟩, fun b hb => ?_, q⟩
      have e' : b = s1.heap.objs.size + 1 ∨ b = s1.heap.objs.size := by simpa using hb
      have hle : s1.heap.objs.size ≤ b := by
        rcases e' with z | z
        · rw [z]; exact Nat.le_add_right _ _
        · rw [z]; exact Nat.le_refl _
      exact I1.fpOk hle (I1.hok.fresh hle)
end SN
namespace SN
open PySem L2 NV
open DW (KT Ex Rp RpL WE WT WA WS WB Mp MpL DOp DOpL DCall DCallL WW DIx WI Wk pin pin_same pin_ne blkX WEb WTb)
/-! ### results put together -/
section
variable {α β γ : Type}
theorem bind_assoc {m : R α} {f : α → Rho → R β} {g : β → Rho → R γ} : R.bind (R.bind m f) g = R.bind m fun a ρ => R.bind (f a ρ) g := by cases m <;> rfl
theorem bind_opt {o : Option α} {f : α → R β} {g : β → Rho → R γ} : R.bind (R.opt o f) g = R.opt o fun a => R.bind (f a) g := by cases o <;> rfl
theorem bind_okk {a : α} {ρ : Rho} {k : α → Rho → R β} : R.bind (.ok a ρ) k = k a ρ := rfl
theorem bind_eta {m : R α} : R.bind m (fun a ρ => .ok a ρ) = m := by cases m <;> rfl
theorem SE.eq {C : Cn} {e : Expr} {f g : Rho → R NV} (h : SE C e f) (q : ∀ ρ, g ρ = f ρ) : SE C e g := by
  have : g = f := funext q
  rw [this]; exact h
theorem ST.eq {C : Cn} {e : Expr} {f g : Rho → R Bool} (h : ST C e f) (q : ∀ ρ, g ρ = f ρ) : ST C e g := by
  have : g = f := funext q
  rw [this]; exact h
theorem STw.eq {C : Cn} {e : Expr} {f g : Rho → R Bool} (h : STw C e f) (q : ∀ ρ, g ρ = f ρ) : STw C e g := by
  have : g = f := funext q
  rw [this]; exact h
theorem SA.eq {C : Cn} {e : List Expr} {f g : Rho → R (List PyData)} (h : SA C e f) (q : ∀ ρ, g ρ = f ρ) : SA C e g := by
  have : g = f := funext q
  rw [this]; exact h
theorem SAa.eq {C : Cn} {e : List Expr} {f g : Rho → R (List NV)} (h : SAa C e f) (q : ∀ ρ, g ρ = f ρ) : SAa C e g := by
  have : g = f := funext q
  rw [this]; exact h
theorem SO.eq {C : Cn} {e : Option Expr} {f g : Rho → R (Option Int)} (h : SO C e f) (q : ∀ ρ, g ρ = f ρ) : SO C e g := by
  have : g = f := funext q
  rw [this]; exact h
theorem SI.eq {C : Cn} {tg e : Expr} {f g : Rho → R (List PyData)} (h : SI C tg e f) (q : ∀ ρ, g ρ = f ρ) : SI C tg e g := by
  have : g = f := funext q
  rw [this]; exact h
theorem SS.eq {C : Cn} {e : Stmt} {f g : Rho → R Fl} (h : SS C e f) (q : ∀ ρ, g ρ = f ρ) : SS C e g := by
  have : g = f := funext q
  rw [this]; exact h
theorem SB.eq {C : Cn} {e : List Stmt} {f g : Rho → R Fl} (h : SB C e f) (q : ∀ ρ, g ρ = f ρ) : SB C e g := by
  have : g = f := funext q
  rw [this]; exact h
end
/-! ### so many items -/
theorem evs_len {G : Pg} {Φ : Calls} {E : Exc → Rho → Prop} : ∀ {es : List X} {ρ : Rho} {k : List PyData → Rho → Prop}, W (evs G Φ es ρ) k E → W (evs G Φ es ρ) (fun ds ρ => ds.length = es.length ∧ k ds ρ) E
  | [], ρ, k, h => ⟨rfl, h⟩
  | e :: es, ρ, k, h => by
    rw [evs, W_bind] at h ⊢
    refine W.mono h (fun v ρ h => ?_) fun _ _ h => h
    rw [W_bind] at h ⊢
    refine W.mono h (fun d ρ h => ?_) fun _ _ h => h
    rw [W_bind] at h ⊢
    exact W.mono (evs_len h) (fun ds ρ h => ⟨congrArg (· + 1) h.1, h.2⟩) fun _ _ h => h
section
variable {C : Cn} {ρ : Rho} {e a b c tg iter : Expr} {es elts : List Expr} {pos p tpos pr : Pos} {fa : Rho → R NV} {fs : Rho → R (List PyData)} {x : Str} {kk : Nat}
/-! ### walks -/
theorem si_range1 (h : SA C [a] fs) (hm : C.X.mg "range" = none) (hg : Gl C.X "range") (hs : starEach [a] C.X.env = [(false, eval a C.X.env)]) :
    SI C tg (.Call (.Name "range" p) [a] [] pr) fun ρ => R.bind (fs ρ) fun ds ρ => R.chk (decide (ds.length = 1)) (R.opt (itF .range ds) fun v => .ok v ρ) := fun ρ k q σ H R' r g => by
  refine WI.of (pi_range1 hg hm WA.pa hs) ?_
  show WA C.X [a] σ H _
  have q : W (R.bind (fs ρ) fun ds ρ => R.chk (decide (ds.length = 1)) (R.opt (itF .range ds) fun v => .ok v ρ)) k C.kx := q
  rw [W_bind] at q
  refine h ρ _ q σ H _ r fun vs ds ρ1 H1 k1 r1 o1 h1 => ?_
  simp only [W_chk, W_opt] at h1
  obtain ⟨hl, zs, es, h1⟩ := h1
  unfold itF at es
  simp only at es
  split at es
  · rename_i n
    split at es
    · rename_i hn
      cases es
      have hn := small_iff hn
      have e : vs = [.int n] := RpL.ints (ns := [n]) o1
      subst e
      exact ⟨n, rfl, hn.1, hn.2, g _ _ ρ1 H1 k1 r1 (DW.wk_range 0 _) h1⟩
    · exact nomatch es
  · exact nomatch (of_decide_eq_true hl : (2 : Nat) = 1)
  · exact nomatch (of_decide_eq_true hl : (3 : Nat) = 1)
  · exact nomatch es
theorem pairs_at : ∀ {as bs : List PyData} {i : Nat} {d : PyData}, (pairs as bs)[i]? = some d → ∃ a b, as[i]? = some a ∧ bs[i]? = some b ∧ d = .tuple [a, b]
  | [], _, i, d, h => by simp [pairs] at h
  | _ :: _, [], i, d, h => by simp [pairs] at h
  | a :: as, b :: bs, 0, d, h => by
    simp [pairs] at h
    exact ⟨a, b, rfl, rfl, h.symm⟩
  | a :: as, b :: bs, i + 1, d, h => by
    rw [pairs, List.getElem?_cons_succ] at h
    obtain ⟨x, y, h1, h2, h3⟩ := pairs_at h
    exact ⟨x, y, by simpa using h1, by simpa using h2, h3⟩
theorem pairs_len : ∀ (as bs : List PyData), (pairs as bs).length = min as.length bs.length
  | [], _ => by simp [pairs]
  | _ :: _, [] => by simp [pairs]
  | a :: as, b :: bs => by simp [pairs, pairs_len as bs]
theorem numbered_at : ∀ {as : List PyData} {j : Int} {i : Nat} {d : PyData}, (NV.numbered j as)[i]? = some d → ∃ a, as[i]? = some a ∧ d = .tuple [.int (j + i), a]
  | [], j, i, d, h => by simp [NV.numbered] at h
  | a :: as, j, 0, d, h => by
    simp [NV.numbered] at h
    exact ⟨a, rfl, by simp [h.symm]⟩
  | a :: as, j, i + 1, d, h => by
    rw [NV.numbered, List.getElem?_cons_succ] at h
    obtain ⟨x, h1, h3⟩ := numbered_at h
    refine ⟨x, by simpa using h1, ?_⟩
    rw [h3]
    have : j + 1 + (i : Int) = j + ((i + 1 : Nat) : Int) := by omega
    rw [this]
theorem numbered_len : ∀ (j : Int) (as : List PyData), (NV.numbered j as).length = as.length
  | _, [] => rfl
  | j, a :: as => by rw [NV.numbered, List.length_cons, List.length_cons, numbered_len]
theorem wk_enumL {K : PySem.W.Frag} {H : Hp} {l : Addr} {vs : List V} {ds : List PyData} (e1 : DW.SqF K H l vs) (e2 : RpL K H vs ds) : Wk K H (Ite K l) (NV.numbered 0 ds) := by
  refine ⟨fun H2 i k2 hi => ?_, fun H2 i x H3 k2 hy => ?_, fun H2 k2 => ⟨vs, (e1.kt k2).l, by rw [numbered_len, e2.length]; exact Nat.le_refl _⟩⟩
  · have hi' : i < vs.length := by rw [e2.length]; rw [numbered_len] at hi; exact hi
    exact ⟨vs, vs[i], (e1.kt k2).l, List.getElem?_eq_getElem hi'⟩
  · obtain ⟨T, y, rfl, hT, rfl, hy⟩ := hy
    have ex : Ex H2 (L2.upd H2 T (.tup [.int (i : Nat), y])) := Ex.new hT
    refine ⟨ex, fun d hd => ?_⟩
    obtain ⟨d', hd', rfl⟩ := numbered_at hd
    obtain ⟨v, hv, rv⟩ := e2.getD hd'
    have := hy vs (e1.kt k2).l
    rw [hv] at this
    cases this
    rw [Int.zero_add]
    exact Rp.tup (SqT.of upd_same) (.cons (.int _) (.cons ((rv.kt k2).kt ex.kt) .nil))
theorem wk_enumT {K : PySem.W.Frag} {H : Hp} {l : Addr} {vs : List V} {ds : List PyData} (e1 : SqT K H l vs) (e2 : RpL K H vs ds) : Wk K H (IteT K l) (NV.numbered 0 ds) := by
  refine ⟨fun H2 i k2 hi => ?_, fun H2 i x H3 k2 hy => ?_, fun H2 k2 => ⟨vs, DW.sqt_kt k2 e1, by rw [numbered_len, e2.length]⟩⟩
  · have hi' : i < vs.length := by rw [e2.length]; rw [numbered_len] at hi; exact hi
    exact ⟨vs, vs[i], DW.sqt_kt k2 e1, List.getElem?_eq_getElem hi'⟩
  · obtain ⟨T, y, rfl, hT, rfl, hy⟩ := hy
    have ex : Ex H2 (L2.upd H2 T (.tup [.int (i : Nat), y])) := Ex.new hT
    refine ⟨ex, fun d hd => ?_⟩
    obtain ⟨d', hd', rfl⟩ := numbered_at hd
    obtain ⟨v, hv, rv⟩ := e2.getD hd'
    have := hy vs (DW.sqt_kt k2 e1)
    rw [hv] at this
    cases this
    rw [Int.zero_add]
    exact Rp.tup (SqT.of upd_same) (.cons (.int _) (.cons ((rv.kt k2).kt ex.kt) .nil))
theorem si_enum (h : SA C [a] fs) (hm : C.X.mg "enumerate" = none) (hg : Gl C.X "enumerate") (hs : starEach [a] C.X.env = [(false, eval a C.X.env)]) :
    SI C (.Tuple elts kk tpos) (.Call (.Name "enumerate" p) [a] [] pr) fun ρ => R.bind (fs ρ) fun ds ρ => R.opt (itF .enum ds) fun v => .ok v ρ := fun ρ k q σ H R' r g => by
  refine WI.of (pi_enumA hg hm WA.pa hs) ?_
  show WA C.X [a] σ H _
  have q : W (R.bind (fs ρ) fun ds ρ => R.opt (itF .enum ds) fun v => .ok v ρ) k C.kx := q
  rw [W_bind] at q
  refine h ρ _ q σ H _ r fun vs ds ρ1 H1 k1 r1 o1 h1 => ?_
  simp only [W_opt] at h1
  obtain ⟨zs, es, h1⟩ := h1
  unfold itF at es
  simp only at es
  split at es
  · rename_i d
    cases o1 with
    | cons q1 q2 =>
      cases q2
      cases d with
      | tuple xs =>
        cases es
        obtain ⟨l, ws, rfl, e1, e2⟩ := (Mp.rp q1).tup
        exact .inr ⟨l, ws, rfl, e1, g _ _ ρ1 H1 k1 r1 (wk_enumT e1 e2) h1⟩
      | list xs =>
        cases es
        cases q1 with
        | lst e1 e2 => exact .inl ⟨_, _, rfl, e1.l, g _ _ ρ1 H1 k1 r1 (wk_enumL e1 e2) h1⟩
      | _ => exact nomatch es
  · exact nomatch es
theorem wk_zipL {K : PySem.W.Frag} {H : Hp} {l l' : Addr} {vs vs' : List V} {ds ds' : List PyData} (e1 : DW.SqF K H l vs) (e2 : RpL K H vs ds) (f1 : DW.SqF K H l' vs') (f2 : RpL K H vs' ds') : Wk K H (Itz K l l') (pairs ds ds') := by
  refine ⟨fun H2 i k2 hi => ?_, fun H2 i x H3 k2 hy => ?_, fun H2 k2 => ⟨vs, vs', (e1.kt k2).l, (f1.kt k2).l, ?_⟩⟩
  · rw [pairs_len] at hi
    have hi1 : i < vs.length := by rw [e2.length]; omega
    have hi2 : i < vs'.length := by rw [f2.length]; omega
    exact ⟨vs, vs', vs[i], vs'[i], (e1.kt k2).l, (f1.kt k2).l, List.getElem?_eq_getElem hi1, List.getElem?_eq_getElem hi2⟩
  · obtain ⟨T, y, z, rfl, hT, rfl, hy, hz⟩ := hy
    have ex : Ex H2 (L2.upd H2 T (.tup [y, z])) := Ex.new hT
    refine ⟨ex, fun d hd => ?_⟩
    obtain ⟨d1, d2, h1, h2, rfl⟩ := pairs_at hd
    obtain ⟨v, hv, rv⟩ := e2.getD h1
    obtain ⟨v', hv', rv'⟩ := f2.getD h2
    have t1 := hy vs (e1.kt k2).l
    rw [hv] at t1
    cases t1
    have t2 := hz vs' (f1.kt k2).l
    rw [hv'] at t2
    cases t2
    exact Rp.tup (SqT.of upd_same) (.cons ((rv.kt k2).kt ex.kt) (.cons ((rv'.kt k2).kt ex.kt) .nil))
  · rw [pairs_len, e2.length, f2.length]
    omega
theorem wk_zipT {K : PySem.W.Frag} {H : Hp} {l l' : Addr} {vs vs' : List V} {ds ds' : List PyData} (e1 : SqT K H l vs) (e2 : RpL K H vs ds) (f1 : SqT K H l' vs') (f2 : RpL K H vs' ds') : Wk K H (RZ.ItzT K l l') (pairs ds ds') := by
  refine ⟨fun H2 i k2 hi => ?_, fun H2 i x H3 k2 hy => ?_, fun H2 k2 => ⟨vs, vs', DW.sqt_kt k2 e1, DW.sqt_kt k2 f1, ?_⟩⟩
  · rw [pairs_len] at hi
    have hi1 : i < vs.length := by rw [e2.length]; omega
    have hi2 : i < vs'.length := by rw [f2.length]; omega
    exact ⟨vs, vs', vs[i], vs'[i], DW.sqt_kt k2 e1, DW.sqt_kt k2 f1, List.getElem?_eq_getElem hi1, List.getElem?_eq_getElem hi2⟩
  · obtain ⟨T, y, z, rfl, hT, rfl, hy, hz⟩ := hy
    have ex : Ex H2 (L2.upd H2 T (.tup [y, z])) := Ex.new hT
    refine ⟨ex, fun d hd => ?_⟩
    obtain ⟨d1, d2, h1, h2, rfl⟩ := pairs_at hd
    obtain ⟨v, hv, rv⟩ := e2.getD h1
    obtain ⟨v', hv', rv'⟩ := f2.getD h2
    have t1 := hy vs (DW.sqt_kt k2 e1)
    rw [hv] at t1
    cases t1
    have t2 := hz vs' (DW.sqt_kt k2 f1)
    rw [hv'] at t2
    cases t2
    exact Rp.tup (SqT.of upd_same) (.cons ((rv.kt k2).kt ex.kt) (.cons ((rv'.kt k2).kt ex.kt) .nil))
  · rw [pairs_len, e2.length, f2.length]
    omega
/-- lists with lists, tuples with tuples -/
theorem si_zip (h : SA C [a, b] fs) (hm : C.X.mg "zip" = none) (hg : Gl C.X "zip") (hs : starEach [a, b] C.X.env = (false, eval a C.X.env) :: starEach [b] C.X.env) (hpl : (backTo pr (starEach [b] C.X.env)).any (·.1) = false) :
    SI C (.Tuple elts kk tpos) (.Call (.Name "zip" p) [a, b] [] pr) fun ρ => R.bind (fs ρ) fun ds ρ => R.opt (itF .zip ds) fun v => .ok v ρ := fun ρ k q σ H R' r g => by
  refine WI.of (RZ.pi_zipA hg hm WA.pa hs hpl) ?_
  show WA C.X [a, b] σ H _
  have q : W (R.bind (fs ρ) fun ds ρ => R.opt (itF .zip ds) fun v => .ok v ρ) k C.kx := q
  rw [W_bind] at q
  refine h ρ _ q σ H _ r fun vs ds ρ1 H1 k1 r1 o1 h1 => ?_
  simp only [W_opt] at h1
  obtain ⟨zs, es, h1⟩ := h1
  unfold itF at es
  simp only at es
  split at es
  · cases o1 with
    | cons q1 q2 =>
      cases q2 with
      | cons q2 q3 =>
        cases q3
        split at es
        · cases es
          obtain ⟨l, ws, rfl, e1, e2⟩ := (Mp.rp q1).tup
          obtain ⟨l', ws', rfl, f1, f2⟩ := (Mp.rp q2).tup
          exact ⟨l, l', ws, ws', rfl, .inr ⟨e1, f1, g _ _ ρ1 H1 k1 r1 (wk_zipT e1 e2 f1 f2) h1⟩⟩
        · cases es
          cases q1 with
          | lst e1 e2 =>
            cases q2 with
            | lst f1 f2 => exact ⟨_, _, _, _, rfl, .inl ⟨e1.l, f1.l, g _ _ ρ1 H1 k1 r1 (wk_zipL e1 e2 f1 f2) h1⟩⟩
        · exact nomatch es
  · exact nomatch es
end
end SN
namespace SN
open PySem L2 NV
open DW (KT Ex Rp RpL WE WT WA WS WB Mp MpL DOp DOpL DCall DCallL WW DIx WI Wk pin pin_same pin_ne blkX WEb WTb)
/-! ### arguments without stars -/
def notStar : Expr → Bool
  | .Starred _ _ => false
  | _ => true
theorem star_cons {e : Expr} {es : List Expr} {env : Env} (h : notStar e = true) : starEach (e :: es) env = (false, eval e env) :: starEach es env := by
  cases e <;> first | rfl | cases h
theorem star_any {env : Env} {pos : Pos} : ∀ {es : List Expr}, es.all notStar = true → (backTo pos (starEach es env)).any (·.1) = false
  | [], _ => rfl
  | e :: es, h => by
    rw [List.all_cons, Bool.and_eq_true] at h
    rw [star_cons h.1]
    show (false || (backTo pos (starEach es env)).any (·.1)) = false
    rw [star_any h.2]
    rfl
theorem star_few {env : Env} {pos : Pos} : ∀ {es : List Expr}, es.all notStar = true → (backTo pos (starEach es env)).all (fun x => !x.1) = true
  | [], _ => rfl
  | e :: es, h => by
    rw [List.all_cons, Bool.and_eq_true] at h
    rw [star_cons h.1]
    show (!false && (backTo pos (starEach es env)).all (fun x => !x.1)) = true
    rw [star_few h.2]
    rfl
/-! ### a slot's thing gets out, others stay -/
section
variable {C : Cn} {ρ : Rho} {e a b c tg iter : Expr} {es elts : List Expr} {pos p tpos pr : Pos} {fa fb : Rho → R NV} {x : Str} {kk : Nat}
theorem se_keep (h : SE C e fa) : SE C e fun ρ => R.bind (fa ρ) keepR := fun ρ k q σ H Q r g => by
  have q : W (R.bind (fa ρ) keepR) k C.kx := q
  rw [W_bind] at q
  refine (h ρ _ q σ H (fun v H' => ∃ nv ρ', KT H H' ∧ C.Rs ρ' σ H' ∧ NvOk C.b ρ' σ H' v nv ∧ W (keepR nv ρ') k C.kx) r fun v nv ρ' H' kt r' ok hk => ⟨nv, ρ', kt, r', ok, hk⟩).thn ?_
  rintro pins s v u H' I rel ⟨nv, ρ', kt, r', ok, hk⟩
  cases nv with
  | dat d => exact ⟨v, H', I, rel, g v _ ρ' H' kt r' ok hk⟩
  | lst d => exact ⟨v, H', I, rel, g v _ ρ' H' kt r' ok hk⟩
  | dic d => exact ⟨v, H', I, rel, g v _ ρ' H' kt r' ok hk⟩
  | ali i =>
    obtain ⟨hv, sv, hs, hnd, hno⟩ := ok
    have hk : W (R.bind (esc (.ali i) ρ') fun d ρ => .ok (NV.NV.dat d) ρ) k C.kx := hk
    rw [W_bind] at hk
    have hk : W (match ρ'[i]? with | some (.own b ds) => R.chk (!b) (.ok (.list ds) (ρ'.set i (.dat (.list ds)))) | _ => .bad : R PyData) (fun d ρ => k (.dat d) ρ) C.kx := hk
    rw [hs] at hk
    cases sv with
    | own b ds =>
      cases b with
      | true => exact hk.elim
      | false =>
        have hk : k (.dat (.list ds)) (ρ'.set i (.dat (.list ds))) := hk
        obtain ⟨l, vs, h1, h2, h3, _⟩ := r'.own hs
        rw [hv] at h1
        cases h1
        obtain ⟨o, I'⟩ := freezeL I h2
        have rp := frz_lst (C := C.b) (o := o) h2 h3
        exact ⟨_, _, I', rel, g _ (.dat (.list ds)) _ _ (kt.trans (Chg.lst h2).kt) (r'.put (s' := .dat (.list ds)) hs rfl hv (Chg.lst h2) ⟨_, rfl, rp⟩ rfl (fun z => nomatch z)) rp hk⟩
    | _ => exact hk.elim
theorem se_neg {i : Int} {j} {p3 : Pos} : SE C (.UnaryOp .USub (.Constant (.int i) j p) p3) fun ρ => .ok (.dat (.int (-i))) ρ := fun ρ k q σ H Q r g =>
  WE.of (pe_un un_neg pe_int) ⟨i, rfl, g _ (.dat (.int (-i))) ρ H (KT.refl H) r (.int _) q⟩
end
/-! ### targets: names side by side -/
def gNames : List Nat → TGs
  | [] => gNil
  | i :: is => gCons (gName i) (gNames is)
theorem wipe_over (σ : St) (i : Nat) (o : Option V) : ∀ is : List Nat, (L2.wipe (σ.set i o) is).set i none = (L2.wipe σ is).set i none
  | [] => List.set_set ..
  | j :: is => by
    show ((L2.wipe (σ.set i o) is).set j none).set i none = ((L2.wipe σ is).set j none).set i none
    by_cases h : j = i
    · subst h
      rw [List.set_set, List.set_set, wipe_over σ j o is]
    · rw [List.set_comm _ _ h, wipe_over σ i o is, List.set_comm _ _ h]
theorem stos_len {E : Exc → Rho → Prop} {k : Unit → Rho → Prop} : ∀ {is : List Nat} {ds : List PyData} {ρ : Rho}, W (stos is ds ρ) k E → is.length = ds.length
  | [], [], _, _ => rfl
  | [], _ :: _, _, h => h.elim
  | _ :: _, [], _, h => h.elim
  | i :: is, d :: ds, ρ, h => by
    rw [stos, W_chk] at h
    exact congrArg (· + 1) (stos_len h.2)
theorem stos_ok {C : Cb} {H : Hp} {E : Exc → Rho → Prop} {k : Unit → Rho → Prop} {Q : St → Hp → Prop} : ∀ {is : List Nat} {ds : List PyData} {vs : List V} {ρ : Rho} {σ : St}, Rs C ρ σ H → RpL C.K H vs ds → W (stos is ds ρ) k E →
    (∀ ρ' σ', Rs C ρ' σ' H → k () ρ' → L2.wipe σ' is = L2.wipe σ is → σ'.length = σ.length → Q σ' H) → gNames is vs σ H Q
  | [], [], _, ρ, σ, r, .nil, h, g => ⟨rfl, g ρ σ r h rfl rfl⟩
  | [], _ :: _, _, _, _, _, _, h, _ => h.elim
  | _ :: _, [], _, _, _, _, _, h, _ => h.elim
  | i :: is, d :: ds, v :: vs, ρ, σ, r, .cons hv hl, h, g => by
    rw [stos, W_chk] at h
    obtain ⟨s, hs, hlt⟩ := bor_lent h.1
    refine ⟨v, vs, rfl, ?_⟩
    show gNames is vs (σ.set i (some v)) H Q
    refine stos_ok (r.setD hs hlt hv) hl h.2 fun ρ' σ' r' hk hw hlen => g ρ' σ' r' hk ?_ (by rw [hlen, List.length_set])
    show (L2.wipe σ' is).set i none = (L2.wipe σ is).set i none
    rw [hw]
    exact wipe_over σ i _ is
theorem tg_tup {K : PySem.W.Frag} (is : List Nat) : TgOk K (gTup K is.length (gNames is)) (.tup is) := fun C ρ σ H v d k E Q hK r rp w hq => by
  cases d with
  | tuple ds =>
    have w : W (stos is ds ρ) k E := w
    obtain ⟨l, vs, rfl, e1, e2⟩ := (Mp.rp rp).tup
    subst hK
    exact ⟨l, vs, rfl, e1, by rw [e2.length, stos_len w], stos_ok r e2 w hq⟩
  | _ => exact w.elim
/-- a name that may be stored here -/
def TgName (X : Cx) (e : Expr) (i : Nat) : Prop := ∃ x p, e = .Name x p ∧ X.N[i]? = some x ∧ Loc X.env.scope x ∧ (X.fn x = true ∨ X.env.scope.names.lookup x = some .local)
inductive TgNames (X : Cx) : List Expr → List Nat → Prop
  | nil : TgNames X [] []
  | cons {e : Expr} {i : Nat} {es : List Expr} {is : List Nat} : TgName X e i → TgNames X es is → TgNames X (e :: es) (i :: is)
theorem TgNames.pgs {X : Cx} (hN : X.N.Nodup) : ∀ {es : List Expr} {is : List Nat}, TgNames X es is → PGs X es (gNames is) ∧ (assignEach es X.env).length = is.length ∧ (assignEach es X.env).findIdx? (·.1) = none
  | _, _, .nil => ⟨pgs_nil, rfl, rfl⟩
  | _, _, .cons ⟨x, p, he, h1, h2, h3⟩ t => by
    obtain ⟨a, b, c⟩ := TgNames.pgs hN t
    subst he
    refine ⟨pgs_cons (pg_name hN h1 h2 h3) a rfl, ?_, ?_⟩
    · show (assignEach _ X.env).length + 1 = _ + 1
      rw [b]
    · show ((false, _) :: assignEach _ X.env).findIdx? (·.1) = none
      rw [List.findIdx?_cons, c]
      rfl
theorem TgName.pg {X : Cx} (hN : X.N.Nodup) {e : Expr} {i : Nat} (h : TgName X e i) : PG X e (gName i) := by
  obtain ⟨x, p, rfl, h1, h2, h3⟩ := h
  exact pg_name hN h1 h2 h3
def gSeq (K : PySem.W.Frag) (n : Nat) (t : TGs) : TG := fun v σ H Q => gTup K n t v σ H Q ∨ gLst K n t v σ H Q
theorem pg_seq {X : Cx} {es : List Expr} {k : Nat} {t : TGs} {n : Nat} {pos : Pos} (hc : X.calm = true) (h : PGs X es t) (hn : (assignEach es X.env).length = n) (hst : (assignEach es X.env).findIdx? (·.1) = none) : PG X (.Tuple es k pos) (gSeq X.K n t) := by
  refine ⟨fun pins s σ H v u Q I r hw => ?_⟩
  rcases hw with hw | hw
  · exact (pg_tup hc h hn hst).run pins s σ H v u Q I r hw
  · exact (pg_lst hc h hn hst).run pins s σ H v u Q I r hw
section
variable {C : Cn} {ρ : Rho} {e a b c tg iter : Expr} {es elts : List Expr} {pos p p2 p3 px py pz pt ps tpos pr : Pos} {fa fb : Rho → R NV} {fv : Rho → R (List NV)} {x y z : Str} {kk i j l : Nat} {is : List Nat} {kt : Nat} {k2 : Nat} {pt2 : Pos}
/-- x, y, .. = e -/
theorem ss_unp (hc : C.X.calm = true) (hN : C.X.N.Nodup) (h : SE C e fa) (ht : TgNames C.X elts is) (hs : swapsWithSole [.Tuple elts kk tpos] e pos.line C.X.env = pure false) (hw : swappedStores [.Tuple elts kk tpos] e C.X.env = pure none) :
    SS C (.Assign [.Tuple elts kk tpos] e pos) fun ρ => R.bind (fa ρ) fun v ρ => R.bind (esc v ρ) fun d ρ => R.opt (items d) fun ds => R.bind (stos is ds ρ) fun _ ρ => .ok .nx ρ := fun ρ k q σ H E r ac => by
  obtain ⟨g1, g2, g3⟩ := ht.pgs hN
  refine WS.of (ps_asg WE.pe (pg_seq hc g1 g2 g3) hs hw rfl) ?_
  show WE C.X e σ H _
  have q : W (R.bind (fa ρ) fun v ρ => R.bind (esc v ρ) fun d ρ => R.opt (items d) fun ds => R.bind (stos is ds ρ) fun _ ρ => .ok .nx ρ) k C.kx := q
  refine h.esc (k := fun d ρ => W (R.opt (items d) fun ds => R.bind (stos is ds ρ) fun _ ρ => .ok .nx ρ) k C.kx) ?_ σ H _ r fun v d ρ1 H1 k1 r1 o1 h1 => ?_
  · rw [W_bind] at q ⊢
    exact q.mono (fun x ρ h => by rw [W_bind] at h; exact h) fun _ _ h => h
  have h1 : W (R.opt (items d) fun ds => R.bind (stos is ds ρ1) fun _ ρ => .ok .nx ρ) k C.kx := h1
  rw [W_opt] at h1
  obtain ⟨ds, ed, h3⟩ := h1
  rw [W_bind] at h3
  have fin : ∀ ρ' σ', C.Rs ρ' σ' H1 → W (.ok Fl.nx ρ') k C.kx → L2.wipe σ' is = L2.wipe σ is → σ'.length = σ.length → E.nx σ' H1 := fun ρ' σ' r' hk _ _ => ac.nx ρ' σ' H1 k1 r' hk
  cases d with
  | tuple xs =>
    cases ed
    obtain ⟨l, vs, rfl, e1, e2⟩ := (Mp.rp o1).tup
    exact .inl ⟨l, vs, rfl, e1, e2.length.trans (stos_len h3).symm, stos_ok (C := C.b) r1 e2 h3 fin⟩
  | list xs =>
    cases ed
    cases o1 with
    | lst e1 e2 => exact .inr ⟨_, _, rfl, e1.l, e2.length.trans (stos_len h3).symm, stos_ok (C := C.b) r1 e2 h3 fin⟩
  | _ => exact nomatch ed
/-- what is stored last -/
theorem sto_nas {X : Cx} {pins : List (Addr × Obj)} {s : Shared} {v : V} {nv : NV} {H : Hp} {σ : St} {k : Unit → Rho → Prop} {Ex0 : Exc → Rho → Prop} (hna : ∀ i, nv ≠ .ali i) (r : C.Rs ρ σ H) (ok : NvOk C.b ρ σ H v nv) (w : W (sto i nv ρ) k Ex0) :
    ∃ ρ', C.Rs ρ' (σ.set i (some v)) H ∧ k () ρ' := by
  cases nv with
  | dat d =>
    have w : W (R.chk (!isBor ρ[i]?) (.ok () (ρ.set i (.dat d)))) k Ex0 := w
    rw [W_chk] at w
    obtain ⟨s0, hs, hl⟩ := bor_lent w.1
    exact ⟨_, r.setD hs hl ok, w.2⟩
  | lst ds =>
    have w : W (R.chk (!isBor ρ[i]?) (.ok () (ρ.set i (.own false ds)))) k Ex0 := w
    rw [W_chk] at w
    obtain ⟨s0, hs, hl⟩ := bor_lent w.1
    obtain ⟨p, vs, rfl, n, h1, h2⟩ := ok
    exact ⟨_, r.setO hs hl n h1 h2, w.2⟩
  | dic ds =>
    have w : W (R.chk (!isBor ρ[i]?) (.ok () (ρ.set i (.dic false ds)))) k Ex0 := w
    rw [W_chk] at w
    obtain ⟨s0, hs, hl⟩ := bor_lent w.1
    obtain ⟨p, vs, rfl, n, h1, h2⟩ := ok
    exact ⟨_, r.setK hs hl n h1 h2, w.2⟩
  | ali j => exact absurd rfl (hna j)
end
end SN
namespace SN
open PySem L2 NV
open DW (KT Ex Rp RpL WE WT WA WS WB Mp MpL DOp DOpL DCall DCallL WW DIx WI Wk pin pin_same pin_ne blkX WEb WTb)
/-! ### values side by side -/
inductive PaOk (C : Cb) (ρ : Rho) (σ : St) (H : Hp) : List V → List NV → Prop
  | nil : PaOk C ρ σ H [] []
  | last {v : V} {nv : NV} : NvOk C ρ σ H v nv → (∀ i, nv ≠ .ali i) → PaOk C ρ σ H [v] [nv]
  | dat {v : V} {d : PyData} {vs : List V} {nvs : List NV} : Rp C.K H v d → PaOk C ρ σ H vs nvs → PaOk C ρ σ H (v :: vs) (.dat d :: nvs)
def setAll (σ : St) : List Nat → List V → St
  | i :: is, v :: vs => setAll (σ.set i (some v)) is vs
  | _, _ => σ
section
variable {C : Cb} {ρ : Rho} {σ : St} {H : Hp} {E : Exc → Rho → Prop} {k : Unit → Rho → Prop}
theorem NvOk.setD {v x : V} {nv : NV} {i : Nat} {d : PyData} (h : NvOk C ρ σ H v nv) (hn : ∀ i, nv ≠ .ali i) : NvOk C (ρ.set i (.dat d)) (σ.set i (some x)) H v nv := by
  cases nv with
  | dat d => exact h
  | lst ds =>
    obtain ⟨p, vs, h1, h2, h3⟩ := h
    exact ⟨p, vs, h1, h2.setD, h3⟩
  | dic ds =>
    obtain ⟨p, vs, h1, h2, h3⟩ := h
    exact ⟨p, vs, h1, h2.setD, h3⟩
  | ali j => exact absurd rfl (hn j)
theorem PaOk.setD {x : V} {i : Nat} {d : PyData} : ∀ {vs : List V} {nvs : List NV}, PaOk C ρ σ H vs nvs → PaOk C (ρ.set i (.dat d)) (σ.set i (some x)) H vs nvs
  | _, _, .nil => .nil
  | _, _, .last h hn => .last (h.setD hn) hn
  | _, _, .dat h t => .dat h t.setD
theorem sto_na {v : V} {nv : NV} {i : Nat} (hna : ∀ i, nv ≠ .ali i) (r : Rs C ρ σ H) (ok : NvOk C ρ σ H v nv) (w : W (sto i nv ρ) k E) : ∃ ρ', Rs C ρ' (σ.set i (some v)) H ∧ k () ρ' := by
  cases nv with
  | dat d =>
    have w : W (R.chk (!isBor ρ[i]?) (.ok () (ρ.set i (.dat d)))) k E := w
    rw [W_chk] at w
    obtain ⟨s0, hs, hl⟩ := bor_lent w.1
    exact ⟨_, r.setD hs hl ok, w.2⟩
  | lst ds =>
    have w : W (R.chk (!isBor ρ[i]?) (.ok () (ρ.set i (.own false ds)))) k E := w
    rw [W_chk] at w
    obtain ⟨s0, hs, hl⟩ := bor_lent w.1
    obtain ⟨p, vs, rfl, n, h1, h2⟩ := ok
    exact ⟨_, r.setO hs hl n h1 h2, w.2⟩
  | dic ds =>
    have w : W (R.chk (!isBor ρ[i]?) (.ok () (ρ.set i (.dic false ds)))) k E := w
    rw [W_chk] at w
    obtain ⟨s0, hs, hl⟩ := bor_lent w.1
    obtain ⟨p, vs, rfl, n, h1, h2⟩ := ok
    exact ⟨_, r.setK hs hl n h1 h2, w.2⟩
  | ali j => exact absurd rfl (hna j)
theorem stoP_ok : ∀ {is : List Nat} {vs : List V} {nvs : List NV} {ρ : Rho} {σ : St}, Rs C ρ σ H → PaOk C ρ σ H vs nvs → W (stoP is nvs ρ) k E → is.length = vs.length ∧ ∃ ρ', Rs C ρ' (setAll σ is vs) H ∧ k () ρ'
  | [], _, _, ρ, σ, r, .nil, w => ⟨rfl, ρ, r, w⟩
  | [], _, _, ρ, σ, r, .last _ _, w => w.elim
  | [], _, _, ρ, σ, r, .dat _ _, w => w.elim
  | i :: is, _, _, ρ, σ, r, .nil, w => w.elim
  | i :: is, _, _, ρ, σ, r, .last h hn, w => by
    rw [stoP, W_bind] at w
    obtain ⟨ρ', r', w'⟩ := sto_na hn r h w
    cases is with
    | nil => exact ⟨rfl, ρ', r', w'⟩
    | cons j is => exact w'.elim
  | i :: is, _, _, ρ, σ, r, .dat (d := d) h t, w => by
    rw [stoP, W_bind] at w
    have w : W (R.chk (!isBor ρ[i]?) (.ok () (ρ.set i (.dat d)))) _ E := w
    rw [W_chk] at w
    obtain ⟨s0, hs, hl⟩ := bor_lent w.1
    obtain ⟨h1, h2⟩ := stoP_ok (r.setD hs hl h) t.setD w.2
    exact ⟨congrArg (· + 1) h1, h2⟩
end
section
variable {C : Cn} {ρ : Rho} {e a b c tg iter : Expr} {es elts : List Expr} {pos p p2 p3 px py pz pt ps tpos pr spos apos cpos : Pos} {fa fb : Rho → R NV} {fv : Rho → R (List NV)} {fs : Rho → R (List PyData)} {x y z : Str} {kk i j l : Nat} {is : List Nat} {kt : Nat} {k2 : Nat} {pt2 : Pos}
def DAp (C : Cn) (ρ : Rho) (es : List Expr) (k : List NV → Rho → Prop) : Prop :=
  ∀ σ H (Q : List V → Hp → Prop), C.Rs ρ σ H → (∀ vs nvs ρ' H', KT H H' → C.Rs ρ' σ H' → PaOk C.b ρ' σ H' vs nvs → k nvs ρ' → Q vs H') → WA C.X es σ H Q
def SAp (C : Cn) (es : List Expr) (f : Rho → R (List NV)) : Prop := ∀ ρ k, W (f ρ) k C.kx → DAp C ρ es k
theorem SAp.eq {f g : Rho → R (List NV)} (h : SAp C es f) (q : ∀ ρ, g ρ = f ρ) : SAp C es g := by
  have : g = f := funext q
  rw [this]; exact h
theorem sap_nil : SAp C [] fun ρ => .ok [] ρ := fun ρ k q σ H Q r g => WA.of pa_nil (g [] [] ρ H (KT.refl H) r .nil q)
theorem keep_na {m : R NV} {k : NV → Rho → Prop} {E : Exc → Rho → Prop} (h : W (R.bind m keepR) k E) : W (R.bind m keepR) (fun v ρ => (∀ i, v ≠ .ali i) ∧ k v ρ) E := by
  rw [W_bind] at h ⊢
  refine h.mono (fun v ρ h => ?_) fun _ _ h => h
  cases v with
  | dat d => exact ⟨(by intro i z; cases z), h⟩
  | lst d => exact ⟨(by intro i z; cases z), h⟩
  | dic d => exact ⟨(by intro i z; cases z), h⟩
  | ali j =>
    have h : W (R.bind (esc (.ali j) ρ) fun d ρ => .ok (NV.NV.dat d) ρ) k E := h
    show W (R.bind (esc (.ali j) ρ) fun d ρ => .ok (NV.NV.dat d) ρ) _ E
    rw [W_bind] at h ⊢
    exact h.mono (fun d ρ h => ⟨(by intro i z; cases z), h⟩) fun _ _ h => h
theorem sap_last (h : SE C e fa) (he : notStar e = true) : SAp C [e] fun ρ => R.bind (R.bind (fa ρ) keepR) fun v ρ => .ok [v] ρ := fun ρ k q σ H Q r g => by
  refine WA.of (pa_cons WE.pe pa_nil (star_cons he)) ?_
  show WE C.X e σ H _
  have q : W (R.bind (R.bind (fa ρ) keepR) fun v ρ => .ok [v] ρ) k C.kx := q
  rw [W_bind] at q
  exact se_keep h ρ _ (keep_na q) σ H _ r fun v nv ρ1 H1 k1 r1 ok h1 => g [v] [nv] ρ1 H1 k1 r1 (.last ok h1.1) h1.2
theorem sap_cons (h : SE C e fa) (hs : SAp C es fv) (he : notStar e = true) : SAp C (e :: es) fun ρ => R.bind (fa ρ) fun v ρ => R.bind (esc v ρ) fun d ρ => R.bind (fv ρ) fun r ρ => .ok (.dat d :: r) ρ := fun ρ k q σ H Q r g => by
  refine WA.of (pa_cons WE.pe WA.pa (star_cons he)) ?_
  show WE C.X e σ H _
  have q : W (R.bind (fa ρ) fun v ρ => R.bind (esc v ρ) fun d ρ => R.bind (fv ρ) fun r ρ => .ok (NV.NV.dat d :: r) ρ) k C.kx := q
  refine h.esc (k := fun d ρ => W (R.bind (fv ρ) fun r ρ => .ok (NV.NV.dat d :: r) ρ) k C.kx) ?_ σ H _ r fun v d ρ1 H1 k1 r1 o1 h1 => ?_
  · rw [W_bind] at q ⊢
    exact q.mono (fun x ρ h => by rw [W_bind] at h; exact h) fun _ _ h => h
  show WA C.X es σ H1 _
  have h1 : W (R.bind (fv ρ1) fun r ρ => .ok (NV.NV.dat d :: r) ρ) k C.kx := h1
  rw [W_bind] at h1
  exact hs ρ1 _ h1 σ H1 _ r1 fun vs nvs ρ2 H2 k2 r2 o2 h2 => g _ _ ρ2 H2 (k1.trans k2) r2 (.dat (Rp.kt k2 o1) o2) h2
/-- x, y = a, b -/
theorem ss_par2 (hc : C.X.calm = true) (hN : C.X.N.Nodup) (h : SAp C [a, b] fv) (hi : C.X.N[i]? = some x) (hj : C.X.N[j]? = some y) (hij : i ≠ j) (hx : C.X.env.scope.names.lookup x = some .local) (hy : C.X.env.scope.names.lookup y = some .local)
    (hw : swappedStores [.Tuple [.Name x px, .Name y py] kt pt] (.Tuple [a, b] k2 pt2) C.X.env = pure (some [x, y])) :
    SS C (.Assign [.Tuple [.Name x px, .Name y py] kt pt] (.Tuple [a, b] k2 pt2) pos) fun ρ => R.bind (fv ρ) fun vs ρ => R.bind (stoP [i, j] vs ρ) fun _ ρ => .ok .nx ρ := fun ρ k q σ H E r ac => by
  refine WS.of (ps_par hc hN hi hj hij hx hy WA.pa hw rfl) ?_
  show WA C.X [a, b] σ H _
  have q : W (R.bind (fv ρ) fun vs ρ => R.bind (stoP [i, j] vs ρ) fun _ ρ => .ok .nx ρ) k C.kx := q
  rw [W_bind] at q
  refine h ρ _ q σ H _ r fun vs nvs ρ1 H1 k1 r1 o1 h1 => ?_
  rw [W_bind] at h1
  obtain ⟨hl, ρ', r', w'⟩ := stoP_ok (C := C.b) r1 o1 h1
  match vs, hl with
  | [v, w], _ => exact ⟨v, w, rfl, ac.nx ρ' _ H1 k1 r' w'⟩
theorem ss_par3 (hc : C.X.calm = true) (hN : C.X.N.Nodup) (h : SAp C [a, b, c] fv) (hi : C.X.N[i]? = some x) (hj : C.X.N[j]? = some y) (hl : C.X.N[l]? = some z) (hij : i ≠ j) (hil : i ≠ l) (hjl : j ≠ l)
    (hx : C.X.env.scope.names.lookup x = some .local) (hy : C.X.env.scope.names.lookup y = some .local) (hz : C.X.env.scope.names.lookup z = some .local)
    (hw : swappedStores [.Tuple [.Name x px, .Name y py, .Name z pz] kt pt] (.Tuple [a, b, c] k2 pt2) C.X.env = pure (some [x, y, z])) :
    SS C (.Assign [.Tuple [.Name x px, .Name y py, .Name z pz] kt pt] (.Tuple [a, b, c] k2 pt2) pos) fun ρ => R.bind (fv ρ) fun vs ρ => R.bind (stoP [i, j, l] vs ρ) fun _ ρ => .ok .nx ρ := fun ρ k q σ H E r ac => by
  refine WS.of (ps_par3 hc hN hi hj hl hij hil hjl hx hy hz WA.pa hw rfl) ?_
  show WA C.X [a, b, c] σ H _
  have q : W (R.bind (fv ρ) fun vs ρ => R.bind (stoP [i, j, l] vs ρ) fun _ ρ => .ok .nx ρ) k C.kx := q
  rw [W_bind] at q
  refine h ρ _ q σ H _ r fun vs nvs ρ1 H1 k1 r1 o1 h1 => ?_
  rw [W_bind] at h1
  obtain ⟨hl, ρ', r', w'⟩ := stoP_ok (C := C.b) r1 o1 h1
  match vs, hl with
  | [u, v, w], _ => exact ⟨u, v, w, rfl, ac.nx ρ' _ H1 k1 r' w'⟩
/-! ### x[k] = v -/
def rSetA : TSet := fun o i v H Q => rSetL o i v H Q ∨ rSetD o i v H Q
theorem set_any {X : Cx} (hu : X.A.units + 1 < cLine) : PSet X rSetA := by
  intro pins s σ H o i v ov iv u Q I ro ri rv h
  rcases h with h | h
  · exact set_list pins s σ H o i v ov iv u Q I ro ri rv h
  · exact set_dict hu pins s σ H o i v ov iv u Q I ro ri rv h
theorem ss_put (hm : C.X.A.units + 200 < cLine) (hN : C.X.N[i]? = some x) (hv : Vis C.X.env.scope x) (hd : (x == ("__debug__" : Str)) = false) (hcd : (x == ("__classdict__" : Str)) = false) (hb : SE C b fb) (ha : SE C a fa)
    (hs : swapsWithSole [.Subscript (.Name x px) b ps] a pos.line C.X.env = pure false) (hw : swappedStores [.Subscript (.Name x px) b ps] a C.X.env = pure none)
    (hasg : ∀ v, assign (.Subscript (.Name x px) b ps) C.X.env v = (do
      let ov ← holding [v] (eval (.Name x px) C.X.env)
      let iv ← holding [v, ov] (eval b C.X.env)
      standAt ps
      holding [v, ov, iv] (setItem ov iv v)
      release [v, ov, iv] [])) :
    SS C (.Assign [.Subscript (.Name x px) b ps] a pos) fun ρ => R.bind (fa ρ) fun z ρ => R.bind (esc z ρ) fun dv ρ => R.chk (isLstS ρ[i]? || isDicS ρ[i]?) <| R.bind (fb ρ) fun y ρ => R.opt (y.data ρ) fun dk => R.opt ρ[i]? fun s => R.opt (NV.putF s dk dv) fun s => .ok .nx (ρ.set i s) := fun ρ k q σ H E r ac => by
  refine WS.of (ps_asg WE.pe (pg_sub (pe_var hN hv hd hcd) WE.pe (set_any (by omega)) hasg) hs hw rfl) ?_
  show WE C.X a σ H _
  have q : W (R.bind (fa ρ) fun z ρ => R.bind (esc z ρ) fun dv ρ => R.chk (isLstS ρ[i]? || isDicS ρ[i]?) <| R.bind (fb ρ) fun y ρ => R.opt (y.data ρ) fun dk => R.opt ρ[i]? fun s => R.opt (NV.putF s dk dv) fun s => .ok .nx (ρ.set i s)) k C.kx := q
  refine ha.esc (k := fun dv ρ => W (R.chk (isLstS ρ[i]? || isDicS ρ[i]?) <| R.bind (fb ρ) fun y ρ => R.opt (y.data ρ) fun dk => R.opt ρ[i]? fun s => R.opt (NV.putF s dk dv) fun s => .ok .nx (ρ.set i s)) k C.kx) ?_ σ H _ r fun v dv ρ1 H1 k1 r1 o1 h1 => ?_
  · rw [W_bind] at q ⊢
    exact q.mono (fun x ρ h => by rw [W_bind] at h; exact h) fun _ _ h => h
  have h1 : W (R.chk (isLstS ρ1[i]? || isDicS ρ1[i]?) <| R.bind (fb ρ1) fun y ρ => R.opt (y.data ρ) fun dk => R.opt ρ[i]? fun s => R.opt (NV.putF s dk dv) fun s => .ok Fl.nx (ρ.set i s)) k C.kx := h1
  rw [W_chk] at h1
  obtain ⟨hk, h1⟩ := h1
  rw [W_bind] at h1
  have hσ : ∃ l, σ[i]? = some (some (V.ref l)) := by
    cases hs : ρ1[i]? with
    | none => rw [hs] at hk; cases hk
    | some s =>
      rw [hs] at hk
      cases s with
      | own b ds => obtain ⟨l, vs, e, _⟩ := r1.own hs; exact ⟨l, e⟩
      | dic b ds => obtain ⟨l, vs, e, _⟩ := r1.dic hs; exact ⟨l, e⟩
      | _ => cases hk
  obtain ⟨l, hl⟩ := hσ
  refine ⟨.ref l, hl, ?_⟩
  show WE C.X b σ H1 _
  refine hb.df h1 σ H1 _ r1 fun w nv ρ2 H2 k2 r2 o2 h2 => ?_
  simp only [W_opt] at h2
  obtain ⟨dk, edk, s, es, s', es', h2⟩ := h2
  have mq := o2.mq r2 edk
  have o1' := Rp.kt k2 o1
  cases s with
  | own b ds =>
    unfold NV.putF at es'
    simp only at es'
    split at es'
    · rename_i n
      obtain ⟨jj, hj, e⟩ := Option.map_eq_some_iff.mp es'
      subst e
      obtain ⟨l', vs, e1, e2, e3, e4⟩ := r2.own es
      rw [hl] at e1
      cases e1
      cases (mq.to_mp (by intro z e; cases e)).int
      refine .inl ⟨l, vs, n, jj, rfl, rfl, e2, by rw [e3.length]; exact hj, ?_⟩
      have ch : Chg l H2 (L2.upd H2 l (.lst (vs.set jj v))) := Chg.lst e2
      exact ac.nx _ _ _ ((k1.trans k2).trans ch.kt) (r2.put (s' := .own b (ds.set jj dv)) es rfl hl ch ⟨l, rfl, ⟨_, upd_same, (e3.set o1' jj).kt ch.kt⟩, e4⟩ rfl (fun _ => rfl)) h2
    · exact nomatch es'
  | dic b kvs =>
    unfold NV.putF at es'
    simp only at es'
    split at es'
    · rename_i hc
      rw [Bool.and_eq_true] at hc
      cases es'
      obtain ⟨l', vs, e1, e2, e3, e4⟩ := r2.dic es
      rw [hl] at e1
      cases e1
      obtain ⟨kkey, rfl, rfl⟩ := keyD mq hc.1
      have hlen : vs.length < sizeLine := by rw [e3.length]; exact of_decide_eq_true hc.2
      refine .inr ⟨l, _, rfl, DPut.k e2 hlen, ?_⟩
      have ch : Chg l H2 (L2.upd H2 l (.dK (putK vs kkey v))) := Chg.dK e2
      exact ac.nx _ _ _ ((k1.trans k2).trans ch.kt) (r2.put (s' := .dic b (dput kvs (kD kkey) dv)) es rfl hl ch ⟨l, rfl, ⟨_, upd_same, (e3.put o1').kt ch.kt⟩, e4⟩ rfl (fun _ => rfl)) h2
    · exact nomatch es'
  | no => exact nomatch es'
  | dat d => exact nomatch es'
  | exn x => exact nomatch es'
  | scr ns => exact nomatch es'
end
end SN
namespace SN
open PySem L2 NV
open DW (KT Ex Rp RpL WE WT WA WS WB Mp MpL DOp DOpL DCall DCallL WW DIx WI Wk pin pin_same pin_ne blkX WEb WTb)
section
variable {C : Cn} {ρ : Rho} {e a b c elt tg iter : Expr} {es elts : List Expr} {pos p p2 p3 px py pz pt ps tpos pr spos apos cpos : Pos} {fa fb fe : Rho → R NV} {fv : Rho → R (List NV)} {fs fi : Rho → R (List PyData)} {fc : Rho → R Bool} {x y z : Str} {kk i j l : Nat} {is : List Nat}
  {scope : Scope} {own : List (Str × Nat)} {t : Tg} {g : TG} {G : Pg} {Φ : Calls}
/-- y = [..] on one line -/
theorem ss_asgLc0 (hc : C.X.calm = true) (hN : C.X.N.Nodup) (K : CompOk C scope own tg elt t g fe) (hi : SI C tg iter fi) (hs : ∀ x, foldedSetIterable iter C.X.env x = pure x) (hy : C.X.N[i]? = some y) (hyl : C.X.env.scope.names.lookup y = some .local)
    (hsw : swapsWith (.ListComp elt [⟨tg, iter, [], 0⟩] scope pos) (some (.Name y py)) spos.line C.X.env = pure true) :
    SS C (.Assign [.Name y py] (.ListComp elt [⟨tg, iter, [], 0⟩] scope pos) spos) fun ρ => R.bind (lcR fi fe (fun ρ => .ok true ρ) t ρ) fun v ρ => R.bind (sto i v ρ) fun _ ρ => .ok .nx ρ := fun ρ k q σ H E r ac => by
  have q : W (R.bind (lcR fi fe (fun ρ => .ok true ρ) t ρ) fun v ρ => R.bind (sto i v ρ) fun _ ρ => .ok .nx ρ) k C.kx := q
  rw [W_bind] at q
  have base : WS C.X (.Assign [.Name y py] (.ListComp elt [⟨tg, iter, [], 0⟩] scope pos) spos) { nx := fun τ H' => ∃ v nv ρ1 H1, τ = σ.set i (some v) ∧ H' = H1 ∧ KT H H1 ∧ C.Rs ρ1 σ H1 ∧ NvOk C.b ρ1 σ H1 v nv ∧ W (R.bind (sto i nv ρ1) fun _ ρ => .ok .nx ρ) k C.kx, rt := E.rt, bk := E.bk, ct := E.ct } σ H :=
    WS.of (ps_setLc (own := own) hc hN hy hyl hsw DW.WI.pi K.ok K.pg (fun _ _ _ _ _ => pts_nil) (fun s H0 C0 cl fp => (⟨fun pins s' σ H Q I h => h s H0 C0 cl fp pins s' I⟩ : PE (blkX C.X scope s H0 C0 cl fp) elt (WEb C.X scope elt))) hs)
      (lc_te0 K hi r q fun v nv ρ1 H1 k1 r1 ok h1 => ⟨v, nv, ρ1, H1, rfl, rfl, k1, r1, ok, h1⟩)
  refine DW.WS.thn base (fun pins s τ H' I hq => ?_) rfl rfl rfl
  obtain ⟨v, nv, ρ1, H1, rfl, rfl, k1, r1, ok, h1⟩ := hq
  rw [W_bind] at h1
  obtain ⟨ρ', H'', I', kt, r', w'⟩ := sto_rs rfl I r1 ok h1
  exact ⟨_, H'', I', ac.nx ρ' _ H'' (k1.trans kt) r' w'⟩
theorem ss_asgLc1 (hc : C.X.calm = true) (hN : C.X.N.Nodup) (K : CompOk C scope own tg elt t g fe) (hcd : ∀ s H C0 cl fp Hx, ST (C.blk scope s H C0 cl fp Hx) c fc) (hi : SI C tg iter fi) (hs : ∀ x, foldedSetIterable iter C.X.env x = pure x) (hy : C.X.N[i]? = some y) (hyl : C.X.env.scope.names.lookup y = some .local)
    (hsw : swapsWith (.ListComp elt [⟨tg, iter, [c], 0⟩] scope pos) (some (.Name y py)) spos.line C.X.env = pure true) :
    SS C (.Assign [.Name y py] (.ListComp elt [⟨tg, iter, [c], 0⟩] scope pos) spos) fun ρ => R.bind (lcR fi fe fc t ρ) fun v ρ => R.bind (sto i v ρ) fun _ ρ => .ok .nx ρ := fun ρ k q σ H E r ac => by
  have q : W (R.bind (lcR fi fe fc t ρ) fun v ρ => R.bind (sto i v ρ) fun _ ρ => .ok .nx ρ) k C.kx := q
  rw [W_bind] at q
  have base : WS C.X (.Assign [.Name y py] (.ListComp elt [⟨tg, iter, [c], 0⟩] scope pos) spos) { nx := fun τ H' => ∃ v nv ρ1 H1, τ = σ.set i (some v) ∧ H' = H1 ∧ KT H H1 ∧ C.Rs ρ1 σ H1 ∧ NvOk C.b ρ1 σ H1 v nv ∧ W (R.bind (sto i nv ρ1) fun _ ρ => .ok .nx ρ) k C.kx, rt := E.rt, bk := E.bk, ct := E.ct } σ H :=
    WS.of (ps_setLc (own := own) hc hN hy hyl hsw DW.WI.pi K.ok K.pg (fun s H0 C0 cl fp => pts_one (⟨fun pins s' σ H Q I h => h s H0 C0 cl fp pins s' I⟩ : PT (blkX C.X scope s H0 C0 cl fp) c (WTb C.X scope c))) (fun s H0 C0 cl fp => (⟨fun pins s' σ H Q I h => h s H0 C0 cl fp pins s' I⟩ : PE (blkX C.X scope s H0 C0 cl fp) elt (WEb C.X scope elt))) hs)
      (lc_te1 K hcd hi r q fun v nv ρ1 H1 k1 r1 ok h1 => ⟨v, nv, ρ1, H1, rfl, rfl, k1, r1, ok, h1⟩)
  refine DW.WS.thn base (fun pins s τ H' I hq => ?_) rfl rfl rfl
  obtain ⟨v, nv, ρ1, H1, rfl, rfl, k1, r1, ok, h1⟩ := hq
  rw [W_bind] at h1
  obtain ⟨ρ', H'', I', kt, r', w'⟩ := sto_rs rfl I r1 ok h1
  exact ⟨_, H'', I', ac.nx ρ' _ H'' (k1.trans kt) r' w'⟩
/-! ### methods of a list -/
def isLM : Me → Bool
  | .append => true
  | .extend => true
  | .pop => true
  | _ => false
theorem mloc {m : Me} {K : NV → Rho → R NV} {k : NV → Rho → Prop} {E : Exc → Rho → Prop} (hm : isLM m = true) (h : W (R.bind (evN G Φ (.loc i) ρ) fun v ρ => R.chk (mutOk v m ρ) (K v ρ)) k E) : ∃ b ds, ρ[i]? = some (.own b ds) ∧ W (K (.ali i) ρ) k E := by
  rw [W_bind, evN] at h
  have key : ∀ sv, ρ[i]? = some sv → W (R.chk (mutOk (.ali i) m ρ) (K (.ali i) ρ)) k E → ∃ b ds, ρ[i]? = some (.own b ds) ∧ W (K (.ali i) ρ) k E := fun sv hs h => by
    rw [W_chk] at h
    have h1 : isLstS ρ[i]? = true := by cases m <;> first | exact h.1 | cases hm
    rw [hs] at h1
    cases sv with
    | own b ds => exact ⟨b, ds, hs, h.2⟩
    | _ => cases h1
  cases hs : ρ[i]? with
  | none => rw [hs] at h; exact h.elim
  | some sv =>
    rw [hs] at h
    cases sv with
    | no => exact h.elim
    | dat d =>
      have h : W (R.chk (mutOk (.dat d) m ρ) (K (.dat d) ρ)) k E := h
      rw [W_chk] at h
      have h1 : (false : Bool) = true := by cases m <;> first | exact h.1 | cases hm
      cases h1
    | own b ds => obtain ⟨b', ds', e, w⟩ := key _ hs h; rw [hs] at e; exact ⟨b', ds', e, w⟩
    | dic b ds => obtain ⟨b', ds', e, w⟩ := key _ hs h; rw [hs] at e; exact ⟨b', ds', e, w⟩
    | exn y => obtain ⟨b', ds', e, w⟩ := key _ hs h; rw [hs] at e; exact ⟨b', ds', e, w⟩
    | scr ns => obtain ⟨b', ds', e, w⟩ := key _ hs h; rw [hs] at e; exact ⟨b', ds', e, w⟩
theorem few1 {env : Env} (he : notStar e = true) : ((backTo cpos (starEach [e] env)).all (fun x => !x.1) && (backToKw cpos (keywordEach [] env)).all (fun x => x.1.isSome)
      && decide (([e] : List Expr).length + ([] : List Keyword).length + (if ([] : List Keyword).isEmpty then 0 else 1) < 30)) = true := by
  rw [star_few (by rw [List.all_cons, he]; rfl)]
  rfl
theorem mutR_at {m : Me} {ds : List PyData} {k : NV → Rho → Prop} {E : Exc → Rho → Prop} (h : W (mutR i m ds ρ) k E) : ∃ s p, ρ[i]? = some s ∧ mutF m s ds = some p ∧ k (.dat p.1) (ρ.set i p.2) := by
  unfold mutR at h
  simp only [W_opt] at h
  obtain ⟨s, hs, p, hp, h⟩ := h
  exact ⟨s, p, hs, hp, h⟩
theorem se_append (hN : C.X.N[i]? = some x) (hv : Vis C.X.env.scope x) (hd : (x == ("__debug__" : Str)) = false) (hcd : (x == ("__classdict__" : Str)) = false) (h : SA C [e] fs) (he : notStar e = true) (hline : (apos.endLine == cpos.line) = true) :
    SE C (.Call (.Attribute (.Name x px) "append" apos) [e] [] cpos) fun ρ => R.bind (evN G Φ (.loc i) ρ) fun v ρ => R.chk (mutOk v .append ρ) (R.bind (fs ρ) fun ds ρ => mthR v .append ds ρ) := fun ρ k q σ H Q r g => by
  obtain ⟨b, ds, hs, q⟩ := mloc rfl q
  refine WE.of (pe_bm PySem.F.plainAttrs_list PySem.F.slot_list_append PySem.F.type_list_append mt_append (pe_var hN hv hd hcd) WA.pa rfl (few1 he) hline (star_cons he) rfl) ?_
  obtain ⟨l, vs, e1, e2, e3, _⟩ := r.own hs
  refine ⟨.ref l, e1, .inl ⟨rfl, _, SqL.of e2⟩, ?_⟩
  show WA C.X [e] σ H _
  rw [W_bind] at q
  refine h ρ _ q σ H _ r fun ws zs ρ1 H1 k1 r1 o1 h1 => ?_
  obtain ⟨s, pp, hs1, hp, hk⟩ := mutR_at (show W (mutR i .append zs ρ1) k C.kx from h1)
  cases s with
  | own b2 xs =>
    unfold mutF at hp
    simp only at hp
    split at hp
    · rename_i b3 xs3 d e'
      split at hp
      · rename_i hlt
        cases hp
        cases e'
        cases o1 with
        | @cons w0 _ _ _ q1 q2 =>
          cases q2
          obtain ⟨l', us, f1, f2, f3, f4⟩ := r1.own hs1
          rw [e1] at f1
          cases f1
          have ch : Chg l H1 (L2.upd H1 l (.lst (us ++ [w0]))) := Chg.lst f2
          refine ⟨l, us, _, rfl, rfl, f2, by rw [f3.length]; exact hlt, ?_⟩
          exact g _ (.dat .none) _ _ (k1.trans ch.kt) (r1.put (s' := .own b2 (xs ++ [d])) hs1 rfl e1 ch ⟨l, rfl, ⟨_, upd_same, (f3.snoc q1).kt ch.kt⟩, f4⟩ rfl (fun _ => rfl)) Rp.non hk
      · exact nomatch hp
    · exact nomatch hp
  | _ => exact nomatch hp
theorem se_extend (hN : C.X.N[i]? = some x) (hv : Vis C.X.env.scope x) (hd : (x == ("__debug__" : Str)) = false) (hcd : (x == ("__classdict__" : Str)) = false) (h : SA C [e] fs) (he : notStar e = true) (hline : (apos.endLine == cpos.line) = true) :
    SE C (.Call (.Attribute (.Name x px) "extend" apos) [e] [] cpos) fun ρ => R.bind (evN G Φ (.loc i) ρ) fun v ρ => R.chk (mutOk v .extend ρ) (R.bind (fs ρ) fun ds ρ => mthR v .extend ds ρ) := fun ρ k q σ H Q r g => by
  obtain ⟨b, ds, hs, q⟩ := mloc rfl q
  refine WE.of (pe_bm PySem.F.plainAttrs_list PySem.F.slot_list_extend PySem.F.type_list_extend DW.mt_extendA (pe_var hN hv hd hcd) WA.pa rfl (few1 he) hline (star_cons he) rfl) ?_
  obtain ⟨l, vs, e1, e2, e3, _⟩ := r.own hs
  refine ⟨.ref l, e1, .inl ⟨rfl, _, SqL.of e2⟩, ?_⟩
  show WA C.X [e] σ H _
  rw [W_bind] at q
  refine h ρ _ q σ H _ r fun ws zs ρ1 H1 k1 r1 o1 h1 => ?_
  obtain ⟨s, pp, hs1, hp, hk⟩ := mutR_at (show W (mutR i .extend zs ρ1) k C.kx from h1)
  cases s with
  | own b2 xs =>
    have fin : ∀ (d : PyData) (ys : List PyData) (a : Addr) (us' : List V), zs = [d] → ws = [.ref a] → (SqL C.X.K H1 a us' ∨ SqT C.X.K H1 a us') → RpL C.X.K H1 us' ys → xs.length + ys.length ≤ sizeLine → k (.dat .none) (ρ1.set i (.own b2 (xs ++ ys))) → DW.rExtendA C.X.K (.ref l) ws H1 Q := fun d ys a us' ez ew hq hr hlt hk => by
      obtain ⟨l', us, f1, f2, f3, f4⟩ := r1.own hs1
      rw [e1] at f1
      cases f1
      have ch : Chg l H1 (L2.upd H1 l (.lst (us ++ us'))) := Chg.lst f2
      refine ⟨l, a, us, us', rfl, ew, f2, hq, by rw [f3.length, hr.length]; exact hlt, ?_⟩
      exact g _ (.dat .none) _ _ (k1.trans ch.kt) (r1.put (s' := .own b2 (xs ++ ys)) hs1 rfl e1 ch ⟨l, rfl, ⟨_, upd_same, (f3.append hr).kt ch.kt⟩, f4⟩ rfl (fun _ => rfl)) Rp.non hk
    unfold mutF at hp
    simp only at hp
    split at hp
    · rename_i b3 xs3 ys e'
      split at hp
      · rename_i hlt
        cases hp
        cases e'
        cases o1 with
        | cons q1 q2 =>
          cases q2
          cases q1 with
          | lst g1 g2 => exact fin _ _ _ _ rfl rfl (.inl g1.l) g2 hlt hk
      · exact nomatch hp
    · rename_i b3 xs3 ys e'
      split at hp
      · rename_i hlt
        cases hp
        cases e'
        cases o1 with
        | cons q1 q2 =>
          cases q2
          obtain ⟨a, us', rfl, g1, g2⟩ := (Mp.rp q1).tup
          exact fin _ _ _ _ rfl rfl (.inr g1) g2 hlt hk
      · exact nomatch hp
    · exact nomatch hp
  | _ => exact nomatch hp
theorem se_pop (hN : C.X.N[i]? = some x) (hv : Vis C.X.env.scope x) (hd : (x == ("__debug__" : Str)) = false) (hcd : (x == ("__classdict__" : Str)) = false) (hline : (apos.endLine == cpos.line) = true) :
    SE C (.Call (.Attribute (.Name x px) "pop" apos) [] [] cpos) fun ρ => R.bind (evN G Φ (.loc i) ρ) fun v ρ => R.chk (mutOk v .pop ρ) (R.bind (.ok [] ρ) fun ds ρ => mthR v .pop ds ρ) := fun ρ k q σ H Q r g => by
  obtain ⟨b, ds, hs, q⟩ := mloc rfl q
  refine WE.of (pe_bm0 PySem.F.plainAttrs_list PySem.F.slot_list_pop PySem.F.type_list_pop mt_pop (pe_var hN hv hd hcd) rfl hline) ?_
  obtain ⟨l, vs, e1, e2, e3, e4⟩ := r.own hs
  refine ⟨.ref l, e1, .inl ⟨rfl, _, SqL.of e2⟩, ?_⟩
  obtain ⟨s, pp, hs1, hp, hk⟩ := mutR_at (show W (mutR i .pop [] ρ) k C.kx from q)
  rw [hs] at hs1
  cases hs1
  have hp : (ds.getLast?.map fun d => (d, SV.own b ds.dropLast)) = some pp := hp
  obtain ⟨d, hd', e⟩ := Option.map_eq_some_iff.mp hp
  subst e
  have hd2 : ds[ds.length - 1]? = some d := by rw [← List.getLast?_eq_getElem?]; exact hd'
  obtain ⟨v, hv1, hv2⟩ := e3.getD hd2
  refine ⟨l, vs, v, rfl, rfl, e2, by rw [e3.length]; exact hv1, ?_⟩
  have ch : Chg l H (L2.upd H l (.lst vs.dropLast)) := Chg.lst e2
  exact g _ (.dat d) _ _ ch.kt (r.put (s' := .own b ds.dropLast) hs rfl e1 ch ⟨l, rfl, ⟨_, upd_same, e3.dropLast.kt ch.kt⟩, e4⟩ rfl (fun _ => rfl)) (hv2.kt ch.kt) hk
end
end SN
namespace SN
open PySem L2 NV
open DW (KT Ex Rp RpL WE WT WA WS WB Mp MpL DOp DOpL DCall DCallL WW DIx WI Wk pin pin_same pin_ne blkX WEb WTb)
/-! ### exceptions -/
/-- what is said of an exception in a slot -/
def ExOk (C : Cn) : Prop := ∀ a d c, C.ex a d c → ∃ oe k vs, (a, oe) ∈ C.X.pn ∧ C.X.mg c = some (.ref k) ∧ oe.cls = .ref k ∧ oe.dict = d ∧ oe.data = .fields vs
section
variable {X : Cx} {a k : Addr} {oe : Obj} {d : Option Addr} {e : Expr} {te : TE} {pos : Pos} {n : Str}
/-- the reading of a field: the exception a, of class k, its dict d -/
def tXfA (a : Addr) (d : Option Addr) (f : Str) (te : TE) : TE := fun σ H Q => te σ H fun x H1 => x = .ref a ∧ ∃ (dd : Addr) (fs : List (Str × V)) (v : V), d = some dd ∧ H1 dd = some (.xd fs) ∧ fs.lookup f = some v ∧ Q v H1
theorem pe_xfA {vs : Array Value} (T : XfC X.K k) (hno : PySem.W.findIn X.K (.ref k) n = some none) (hpn : (a, oe) ∈ X.pn) (hcl : oe.cls = .ref k) (hdc : oe.dict = d) (hd : oe.data = .fields vs) (he : PE X e te) (hb : attributeBase e n X.env (eval e X.env) = eval e X.env) :
    PE X (.Attribute e n pos) (tXfA a d n te) := by
  refine ⟨fun pins s σ H Q I h => ?_⟩
  refine attr_of hb (thn (he.run pins s σ H _ I h) fun u s1 hh => ?_)
  obtain ⟨x, H1, I1, rx, ex, dd, fs, v, ed, ea, l, q⟩ := hh
  subst ex
  obtain rfl : u = Value.ref a := rx
  subst ed
  obtain ⟨ha, _⟩ := I1.pin (a, oe) (List.mem_append_left _ hpn)
  have hx : ObjOk X.prog X.w H1 s1.heap dd (.xd fs) := I1.hok dd _ ea
  obtain ⟨mA, hns, hr⟩ := hx
  obtain ⟨od, ho, hl⟩ := lookIn_ns hns
  obtain ⟨u, hu, ru⟩ := RelO.some_of (v := v) (o := mA n) (by rw [← l]; exact hr n)
  have J : PySem.W.InstAt s1.heap a oe k (some od) := ⟨ha, hcl, by unfold PySem.W.notCls; rw [hd] <;> rfl, by rw [hdc]; exact ho⟩
  exact HandSPX.exc_get I1.kIn J T.ga T.gg T.exC (PySem.W.findObj_own T.hdC hno rfl (by rw [hl, hu])) (handed_of ru) ⟨v, H1, I1.tok _, ru, q⟩
/-- isinstance(e, c) of an exception that is held -/
def rIsX (K : PySem.W.Frag) (k a : Addr) (d : Option Addr) : List V → Hp → VK → Prop := fun xs H Q => ∃ (c : Addr) (b : Bool), xs = [.ref a, .ref c] ∧ PySem.W.kitOne K (.ref k) (.ref c) = some b ∧ (∀ dd, d = some dd → ∃ fs, H dd = some (.xd fs)) ∧ Q (.bl b) H
theorem call_isX {vs : Array Value} (T : ExcC X.K k) (hpn : (a, oe) ∈ X.pn) (hcl : oe.cls = .ref k) (hdc : oe.dict = d) (hd : oe.data = .fields vs) : CallR X (.builtin "isinstance") (rIsX X.K k a d) := by
  intro pins s σ H xs us Q I r h
  obtain ⟨c, b, rfl, e, hdd, q⟩ := h
  cases r with
  | cons rx rr =>
    cases rr with
    | cons rt rr =>
      cases rr
      cases rx
      cases rt
      obtain ⟨hget, _⟩ := I.pin (a, oe) (List.mem_append.mpr (.inl hpn))
      have hJ : ∃ od, PySem.W.InstAt s.heap a oe k od := by
        cases d with
        | none => exact ⟨none, hget, hcl, by unfold PySem.W.notCls; rw [hd] <;> rfl, by rw [hdc]; trivial⟩
        | some dd =>
          obtain ⟨fs, hfs⟩ := hdd dd rfl
          have hx : ObjOk X.prog X.w H s.heap dd (.xd fs) := I.hok dd _ hfs
          obtain ⟨mA, hns, hr⟩ := hx
          obtain ⟨od, ho, hl⟩ := lookIn_ns hns
          exact ⟨some od, hget, hcl, by unfold PySem.W.notCls; rw [hd] <;> rfl, by rw [hdc]; exact ho⟩
      obtain ⟨od, J⟩ := hJ
      have hclI : (PySem.W.clsIn X.K k).isSome = true := by
        obtain ⟨cd, hc, _⟩ := PySem.W.any_some T.hd
        rw [hc]; rfl
      exact PySem.W.kia_one (PySem.W.kitx_exc hclI T.hg T.hk T.hs T.ha T.hn T.ht T.hm) I.kIn J e (fun z => nomatch z) fun tk => ⟨.bl b, H, I.kept (t' := tk) fun _ _ z => z, rfl, q⟩
end
section
variable {C : Cn} {ρ : Rho} {e a b c : Expr} {pos p p2 p3 px : Pos} {x y f : Str} {i : Nat} {cls : List (Str × Cls)}
/-- what must be said of the classes -/
structure ClsOk (K : PySem.W.Frag) (mg : Str → Option Value) (cls : List (Str × Cls)) (c : Str) (cl : Cls) (k : Addr) : Prop where
  at_ : mg c = some (.ref k)
  xf : XfC K k
  xc : ExcC K k
  fld : ∀ f ∈ cl.fs, PySem.W.findIn K (.ref k) f = some none
  up : ∀ c' cl' k', cls.lookup c' = some cl' → mg c' = some (.ref k') → PySem.W.kitOne K (.ref k) (.ref k') = some (cl.up.contains c') ∧ PySem.W.exmOne K (.ref k) (.ref k') = some (cl.up.contains c')
def ClsAll (K : PySem.W.Frag) (mg : Str → Option Value) (cls : List (Str × Cls)) : Prop := ∀ c cl, cls.lookup c = some cl → ∃ k, ClsOk K mg cls c cl k
theorem Rs.exn {C : Cb} {σ : St} {H : Hp} {y : Exc} (r : Rs C ρ σ H) (h : ρ[i]? = some (.exn y)) : ∃ a d, σ[i]? = some (some (.ref a)) ∧ C.ex a d y.cls ∧ XdOk C.K H d y.fs := by
  obtain ⟨a, d, h1, h2, h3⟩ := r.sl i _ h
  exact ⟨a, d, r.val h h1, h2, h3⟩
/-- e.f -/
theorem se_atr (hE : ExOk C) (hC : ClsAll C.X.K C.X.mg cls) (hN : C.X.N[i]? = some x) (hv : Vis C.X.env.scope x) (hd : (x == ("__debug__" : Str)) = false) (hcd : (x == ("__classdict__" : Str)) = false) :
    SE C (.Attribute (.Name x px) f pos) fun ρ => atrR cls i f ρ := fun ρ k q σ H Q r g => by
  have q : W (match ρ[i]? with | some (.exn y) => R.opt (cls.lookup y.cls) fun cl => R.chk (cl.fs.contains f) (R.opt (y.fs.lookup f) fun d => .ok (.dat d) ρ) | _ => .bad : R NV) k C.kx := q
  cases hs : ρ[i]? with
  | none => rw [hs] at q; exact q.elim
  | some sv =>
    rw [hs] at q
    cases sv with
    | exn y =>
      simp only [W_opt, W_chk] at q
      obtain ⟨cl, hcl, hf, d, hfd, q⟩ := q
      obtain ⟨a, dd, h1, h2, h3⟩ := r.exn hs
      obtain ⟨oe, kk, vs, g1, g2, g3, g4, g5⟩ := hE a dd y.cls h2
      obtain ⟨kk', K'⟩ := hC y.cls cl hcl
      have ek : kk = kk' := by
        have := K'.at_
        rw [g2] at this
        cases this
        rfl
      subst ek
      refine WE.of (pe_xfA K'.xf (K'.fld f (by simpa using hf)) g1 g3 g4 g5 (pe_var hN hv hd hcd) rfl) ?_
      refine ⟨.ref a, h1, rfl, ?_⟩
      cases dd with
      | none =>
        have : y.fs = [] := h3
        rw [this] at hfd
        cases hfd
      | some ad =>
        obtain ⟨ws, e1, e2⟩ := h3
        obtain ⟨v, l1, l2⟩ := e2.look f hfd
        exact ⟨ad, ws, v, rfl, e1, l1, g v (.dat d) ρ H (KT.refl H) r l2 q⟩
    | _ => exact q.elim
/-- isinstance(e, c) -/
theorem se_isx1 (hE : ExOk C) (hC : ClsAll C.X.K C.X.mg cls) (hN : C.X.N[i]? = some x) (hv : Vis C.X.env.scope x) (hd : (x == ("__debug__" : Str)) = false) (hcd : (x == ("__classdict__" : Str)) = false) (hm : C.X.mg "isinstance" = none) (hg : Gl C.X "isinstance") (hgc : Gl C.X y) (hdy : (y == ("__debug__" : Str)) = false) (hcy : (cls.lookup y).isSome = true) :
    SE C (.Call (.Name "isinstance" p) [.Name x px, .Name y p2] [] pos) fun ρ => isxR cls i [y] ρ := fun ρ k q σ H Q r g => by
  have q : W (match ρ[i]? with | some (.exn z) => R.opt (cls.lookup z.cls) fun c => .ok (.dat (.bool ([y].any fun t => c.up.contains t))) ρ | _ => .bad : R NV) k C.kx := q
  cases hs : ρ[i]? with
  | none => rw [hs] at q; exact q.elim
  | some sv =>
    rw [hs] at q
    cases sv with
    | exn z =>
      simp only [W_opt] at q
      obtain ⟨cl, hcl, q⟩ := q
      obtain ⟨a, dd, h1, h2, h3⟩ := r.exn hs
      obtain ⟨oe, kk, vs, g1, g2, g3, g4, g5⟩ := hE a dd z.cls h2
      obtain ⟨kk', K'⟩ := hC z.cls cl hcl
      have ek : kk = kk' := by
        have := K'.at_
        rw [g2] at this
        cases this
        rfl
      subst ek
      obtain ⟨cly, hcly⟩ := Option.isSome_iff_exists.mp hcy
      obtain ⟨ky, Ky⟩ := hC y cly hcly
      refine WE.of (pe_callB (call_isX K'.xc g1 g3 g4 g5) hg hm PyProof.Rows.Boot.«isinstance» (pa_cons (pe_var hN hv hd hcd) (pa_cons (pe_glob (v := .ref ky) hgc Ky.at_ rfl hdy) pa_nil rfl) rfl) (by decide) (by decide) rfl rfl) ?_
      refine ⟨.ref a, h1, ky, cl.up.contains y, rfl, (K'.up y cly ky hcly Ky.at_).1, fun ad e => ?_, ?_⟩
      · subst e
        obtain ⟨ws, e1, _⟩ := h3
        exact ⟨ws, e1⟩
      · have q : k (.dat (.bool ((cl.up.contains y) || false))) ρ := q
        rw [Bool.or_false] at q
        exact g _ (.dat (.bool _)) ρ H (KT.refl H) r (.bl _) q
    | _ => exact q.elim
end
end SN
namespace SN
open PySem L2 NV
open DW (KT Ex Rp RpL WE WT WA WS WB Mp MpL DOp DOpL DCall DCallL WW DIx WI Wk pin pin_same pin_ne blkX WEb WTb)
/-! ### raise C(e), C's __init__ storing its one argument -/
def spIni (K : PySem.W.Frag) (f : Str) : Sp := fun vs H Q _ => ∃ (a C : Addr) (v : V), vs = [.ref a, v] ∧ H a = some (exo a C none) ∧ OexC K C ∧ PySem.W.findIn K (.ref C) f = some none ∧
  ∀ dx, H dx = none → dx ≠ a → Q .non (L2.upd (L2.upd H dx (exd dx [(f, v)])) a (exo a C (some dx)))
theorem ini_ok {P : Program} {w : World} {K : PySem.W.Frag} {mg : Str → Option Value} {base : Heap} {x qual self pn f : Str} {st : Stmt} {fI : Addr} {fd : FuncData} {k : Nat} {p1 p2 p3 p4 : Pos} (F : Fun K x qual st fI fd) (S : FnScope [self, pn] [self, pn] (defScope st))
    (hb : defBody st = [.Assign [.Attribute (.Name self p1) f p2] (.Name pn p3) p4]) (h1 : (self == ("__debug__" : Str)) = false) (h2 : (self == ("__classdict__" : Str)) = false) (h3 : (pn == ("__debug__" : Str)) = false) (h4 : (pn == ("__classdict__" : Str)) = false) :
    FnOk P w K mg base (L2.CX P w) (k + 1) fI fd [self, pn] (spIni K f) := by
  have vs : ∀ y ∈ [self, pn], Vis (defScope st) y := fun y hy => by
    rcases S.par y hy with h | h
    · exact .inl h
    · exact .inr (.inl h)
  refine F.okX S (fun vs H Q E h => ?_) fun cdv A outer s H vals Q E hr h => ?_
  · obtain ⟨a, C, v, rfl, _⟩ := h
    rfl
  · rw [hb]
    refine ⟨_, pss_cons (ps_ost (pe_var (i := 0) (x := self) rfl (vs self (by simp)) h1 h2) (pe_var (i := 1) (x := pn) rfl (vs pn (by simp)) h3 h4)) pss_nil, ?_⟩
    obtain ⟨a, C, v, rfl, e1, e2, e3, q⟩ := h
    refine ⟨v, rfl, .ref a, rfl, a, C, rfl, e2, e3, .inl ⟨e1, fun dx n ne => ?_⟩⟩
    exact q dx n ne
structure Raz (X : Cx) (c f : Str) : Prop where
  ex : ∃ (k fI : Addr) (fd : FuncData) (ps : List Str) (kk : Nat), OexC X.K k ∧ PySem.W.findIn X.K (.ref k) "__init__" = some (some (.ref fI)) ∧ PySem.W.typeIn X.K (.ref fI) = some (.type "function") ∧ FnOk X.prog X.w X.K X.mg X.base (L2.CX X.prog X.w) kk fI fd ps (spIni X.K f) ∧ Room (kk + 1) X.A ∧ Binds X.K fd ps [] ∧
    X.mg c = some (.ref k) ∧ PySem.W.findIn X.K (.ref k) f = some none
theorem WA.mono {X : Cx} {es : List Expr} {σ : St} {H : Hp} {Q Q' : List V → Hp → Prop} (h : WA X es σ H Q) (g : ∀ vs H', Q vs H' → Q' vs H') : WA X es σ H Q' := fun pos pins s I =>
  wpAny_mono (h pos pins s I) (fun us s' ⟨vs, H1, I1, r, q⟩ => ⟨vs, H1, I1, r, g vs H1 q⟩) fun _ _ h => h
def tMk1 (k : Addr) (f : Str) (ta : TA) : St → Hp → XK → Prop := fun σ H Q => ta σ H fun vs H1 => ∃ v, vs = [v] ∧ ∀ dd H2, H1 dd = none → Ex H1 H2 → H2 dd = some (.xd [(f, v)]) → Q (.ref k) (some dd) H2
theorem mk1 {X : Cx} {c f : Str} {e : Expr} {p pos : Pos} (R : Raz X c f) (hg : Gl X c) (hdb : (c == ("__debug__" : Str)) = false) (he : notStar e = true) : ∃ k, X.mg c = some (.ref k) ∧ PMk X (.Call (.Name c p) [e] [] pos) (tMk1 k f (WA X [e])) := by
  obtain ⟨k, fI, fd, ps, kk, T, iC, tI, F, hr, hb, hm, hno⟩ := R.ex
  refine ⟨k, hm, fun pins s σ H Q I h => ?_⟩
  refine pmk_oex (dvs := []) (ds := []) T iC tI F hr hb .nil passL hg hm WA.pa hdb (star_cons he) rfl pins s σ H Q I ?_
  have h : WA X [e] σ H fun vs H1 => ∃ v, vs = [v] ∧ ∀ dd H2, H1 dd = none → Ex H1 H2 → H2 dd = some (.xd [(f, v)]) → Q (.ref k) (some dd) H2 := h
  refine WA.mono h fun vs H1 ⟨v, ev, q⟩ => ?_
  subst ev
  refine ⟨show (1 : Nat) ≤ 1000 by decide, fun a na => ⟨a, k, v, rfl, upd_same, T, hno, fun dx hdx hne => ⟨rfl, dx, [(f, v)], upd_same, ?_, ?_, ?_⟩⟩⟩
  · rw [upd_ne hne, upd_same]
  · rw [upd_ne hne] at hdx
    exact hdx
  · rw [upd_ne hne] at hdx
    refine q dx _ hdx (fun b o hb => ?_) upd_same
    have hba : b ≠ a := fun z => by rw [z, na] at hb; cases hb
    have hbd : b ≠ dx := fun z => by rw [z, hdx] at hb; cases hb
    rw [upd_ne hbd, del_ne hba, upd_ne hba, upd_ne hbd, upd_ne hba]
    exact hb
section
variable {C : Cn} {ρ : Rho} {e : Expr} {pos pos2 p : Pos} {c f : Str} {cls : List (Str × Cls)} {cl : Cls} {fs : Rho → R (List PyData)}
theorem ss_raise1 (hc : C.X.calm = true) (tk : Takes C.X fun cls d σ H => C.xk σ cls d H) (Rz : Raz C.X c f) (hl : cls.lookup c = some cl) (hf : cl.fs = [f]) (hg : Gl C.X c) (hdb : (c == ("__debug__" : Str)) = false) (h : SA C [e] fs) (he : notStar e = true) :
    SS C (.Raise (some (.Call (.Name c p) [e] [] pos2)) none pos) fun ρ => R.bind (fs ρ) fun ds ρ => R.opt (mkExc cls c ds) fun x => .exc x ρ := fun ρ k q σ H E r ac => by
  obtain ⟨kk, hm, hp⟩ := mk1 (p := p) (pos := pos2) Rz hg hdb he
  refine WS.of (ps_raise hc tk hp) ?_
  show WA C.X [e] σ H _
  have q : W (R.bind (fs ρ) fun ds ρ => R.opt (mkExc cls c ds) fun x => .exc x ρ) k C.kx := q
  rw [W_bind] at q
  refine h ρ _ q σ H _ r fun vs ds ρ1 H1 k1 r1 o1 h1 => ?_
  rw [W_opt] at h1
  obtain ⟨x, hx, h1⟩ := h1
  unfold mkExc at hx
  rw [hl, Option.bind_some, hf] at hx
  split at hx
  · rename_i hlen
    match ds, vs, o1, hlen with
    | [d], [v], .cons rp .nil, _ =>
      cases hx
      refine ⟨v, rfl, fun dd H2 hd ex hxd => ⟨_, ρ1, ⟨kk, hm, rfl, [(f, v)], hxd, .cons (rp.kt ex.kt) .nil⟩, r1.ex ex, h1⟩⟩
  · exact nomatch hx
end
/-! ### try: body, except c as n: suite -/
/-- the context of a try's body -/
abbrev Cn.tr (C : Cn) (pn : List (Addr × Obj)) (xe : Value → Shared → Prop) (Hk : Hp) (kx : Exc → Rho → Prop) : Cn := ⟨C.X.tr pn xe, C.H0, C.B, C.ex, Hk, kx⟩
/-- the context of an except suite -/
abbrev Cn.su (C : Cn) (a : Addr) (oe : Obj) (cls : Value) (d : Option Addr) (pn : List (Addr × Obj)) (Hk : Hp) : Cn := ⟨C.X.suite a ((a, oe) :: pn), C.H0, C.B, fun a' d' c => a' = a ∧ d' = d ∧ C.X.mg c = some cls ∧ ∃ k, cls = .ref k, Hk, fun _ _ => False⟩
section
variable {C : Cn} {ρ : Rho} {σ : St} {H : Hp} {v : V} {nv : NV}
/-- another Hk -/
theorem Rs.hk {C : Cb} {Hk : Hp} (r : Rs C ρ σ H) (h : KT Hk H) : Rs { C with Hk := Hk } ρ σ H := ⟨⟨r.fr.ext, h⟩, r.len, fun i sv hi => (r.sl i sv hi).to rfl rfl rfl fun _ _ _ z => z, r.sep, r.bo⟩
theorem New.to {C C' : Cb} {p : Addr} (n : New C ρ σ p) (h : C.H0 = C'.H0) : New C' ρ σ p := ⟨h ▸ n.e, n.s⟩
theorem NvOk.to {C C' : Cb} (hK : C.K = C'.K) (h : C.H0 = C'.H0) (q : NvOk C ρ σ H v nv) : NvOk C' ρ σ H v nv := by
  cases nv with
  | dat d => exact (hK ▸ q : Rp C'.K H v d)
  | lst ds =>
    obtain ⟨p, vs, a, b, c, d⟩ := q
    exact ⟨p, vs, a, b.to h, c, hK ▸ d⟩
  | dic ds =>
    obtain ⟨p, vs, a, b, c, d⟩ := q
    exact ⟨p, vs, a, b.to h, c, hK ▸ d⟩
  | ali i => exact q
theorem noExn_at {i : Nat} {y : Exc} (h : noExn ρ = true) (hi : ρ[i]? = some (.exn y)) : False := by
  have := List.all_eq_true.mp h _ (List.mem_of_getElem? hi)
  cases this
/-- other exceptions, where none stands in a slot -/
theorem Rs.exTo {C : Cb} {ex : Addr → Option Addr → Str → Prop} (r : Rs C ρ σ H) (h : ∀ (i : Nat) (y : Exc), ρ[i]? ≠ some (.exn y)) : Rs { C with ex := ex } ρ σ H := by
  refine ⟨r.fr, r.len, fun i sv hi => ?_, r.sep, r.bo⟩
  have q := r.sl i sv hi
  cases sv with
  | exn y => exact absurd hi (h i y)
  | _ => exact q
variable {body suite : List Stmt} {b₀ : Stmt} {x n c : Str} {np pos pos' : Pos} {j : Nat} {cls : List (Str × Cls)} {cv : Value} {fb fu : Rho → R Fl}
theorem ss_try (hs : C.X.stack = C.X.env :: C.X.outer) (hf : C.X.env.frame = some C.X.env.locals) (hN : C.X.N.Nodup) (hi : C.X.N[j]? = some n) (hln : C.X.env.kindOf n = some .local) (hcN : Names C.X c cv) (tk : Takes C.X fun cls d σ H => C.xk σ cls d H)
    (hex : ∀ a d c, ¬ C.ex a d c)
    (hm : ∀ y cl k, cls.lookup y = some cl → C.X.mg y = some (.ref k) → PySem.W.exmOne C.X.K (.ref k) cv = some (cl.up.contains c))
    (hb : ∀ pn xe Hk kx, Takes (C.X.tr pn xe) (fun cls d σ H => (C.tr pn xe Hk kx).xk σ cls d H) → PassesOwn (model C.X.prog C.X.w) C.X.A C.X.env xe → SB (C.tr pn xe Hk kx) body fb)
    (hu : ∀ a oe k d pn Hk vs, oe.cls = .ref k → oe.dict = d → oe.data = .fields vs → SB (C.su a oe (.ref k) d pn Hk) (b₀ :: suite) fu) :
    SS C (.Try body [.ExceptHandler (some (.Name c np)) (some n) (b₀ :: suite) pos'] [] [] pos) fun ρ => tryR cls (fb ρ) c (some j) (fun ρ => fu ρ) := fun ρ k q σ H E r ac => by
  refine WS.of (ps_try_as (Wout := fun cls d σ H => C.xk σ cls d H) (tb := fun W E σ H => ∀ pn xe, Takes (C.X.tr pn xe) W → PassesOwn (model C.X.prog C.X.w) C.X.A C.X.env xe → WB (C.X.tr pn xe) body E σ H)
    (ts := fun a cls d E σ H => ∀ oe pn, Zc cls d oe → (∃ vs, oe.data = .fields vs) → WB (C.X.suite a ((a, oe) :: pn)) (b₀ :: suite) E σ H) hs hf hN hi hln hcN tk
    (fun W pn xe t p => ⟨fun pins s σ H D I h => h pn xe t p pins s I⟩) (fun a oe cls d pn hz hv => ⟨fun pins s σ H D I h => h oe pn hz hv pins s I⟩)) ?_
  intro pn xe tk' po
  -- what is wished where the body raises
  let kx' : Exc → Rho → Prop := fun y ρ' => W (R.opt (catches cls y c) fun b => R.cond b (R.chk (!isBor ρ'[j]?) (R.bind (R.nox (fu (ρ'.set j (.exn y)))) fun fl ρ => R.chk (noExn (ρ.set j .no) && flOk fl j) (.ok fl (ρ.set j .no)))) (.exc y ρ')) k C.kx
  have hC' : Takes (C.X.tr pn xe) (fun cls d σ H' => (C.tr pn xe H kx').xk σ cls d H') := by
    refine tk'.imp fun cls' d' σ' H' hx => ?_
    obtain ⟨y, ρ', ⟨kc, e1, e2, e3⟩, r', w⟩ := hx
    subst e2
    have w : W (R.opt (catches cls y c) fun b => R.cond b (R.chk (!isBor ρ'[j]?) (R.bind (R.nox (fu (ρ'.set j (.exn y)))) fun fl ρ => R.chk (noExn (ρ.set j .no) && flOk fl j) (.ok fl (ρ.set j .no)))) (.exc y ρ')) k C.kx := w
    rw [W_opt] at w
    obtain ⟨b, hb', w⟩ := w
    obtain ⟨cl, hcl, hbb⟩ := Option.map_eq_some_iff.mp hb'
    have ktH : KT H H' := r'.fr.kt
    have rC : C.Rs ρ' σ' H' := Rs.hk (C := (C.tr pn xe H kx').b) (Hk := C.Hk) r' (r.fr.kt.trans ktH)
    refine ⟨b, by rw [← hbb]; exact hm y.cls cl kc hcl e1, fun hbt a na => ?_, fun hbf => ?_⟩
    · subst hbt
      intro oe pn' hz hv
      obtain ⟨vs, hv⟩ := hv
      rw [rc_t, W_chk] at w
      obtain ⟨wb, w⟩ := w
      rw [W_bind, W_nox] at w
      obtain ⟨sj, hsj, hlj⟩ := bor_lent wb
      -- the slots at the suite's start
      have r1 : Rs (C.su a oe (.ref kc) d' pn' H').b ρ' σ' H' := by
        have r0 : Rs { C.b with ex := fun a' d'' c' => a' = a ∧ d'' = d' ∧ C.X.mg c' = some (.ref kc) ∧ ∃ k, Value.ref kc = .ref k } ρ' σ' H' := Rs.exTo (C := C.b) rC fun i y' hi' => by
          obtain ⟨a0, d0, _, h0, _⟩ := rC.sl i _ hi'
          exact hex _ _ _ h0
        exact Rs.hk (Hk := H') r0 (KT.refl H')
      have r2 : Rs (C.su a oe (.ref kc) d' pn' H').b (ρ'.set j (.exn y)) (σ'.set j (some (.ref a))) H' := r1.set (s' := .exn y) hsj hlj ⟨a, d', rfl, ⟨rfl, rfl, e1, kc, rfl⟩, e3⟩ (fun z => nomatch z) rfl
      have hnB : ∀ l, C.B[j]? ≠ some (some l) := fun l e => by
        obtain ⟨⟨sv, h1, h2⟩, _⟩ := rC.bo j l e
        rw [hsj] at h1
        cases h1
        rw [hlj] at h2
        cases h2
      -- back to the slots behind it
      have back : ∀ {ρ2 : Rho} {σ2 : St} {H2 : Hp}, KT H' H2 → Rs (C.su a oe (.ref kc) d' pn' H').b ρ2 σ2 H2 → noExn (ρ2.set j .no) = true → C.Rs (ρ2.set j .no) (σ2.set j none) H2 := fun {ρ2 σ2 H2} kt2 r3 hn => by
        have r4 : Rs (C.su a oe (.ref kc) d' pn' H').b (ρ2.set j .no) (σ2.set j none) H2 := by
          cases hs3 : ρ2[j]? with
          | none =>
            have hle : ρ2.length ≤ j := List.getElem?_eq_none_iff.mp hs3
            rw [List.set_eq_of_length_le hle, List.set_eq_of_length_le (by rw [r3.len]; exact hle)]
            exact r3
          | some s3 =>
            have hl3 : lent s3 = false := by
              cases hl : lent s3 with
              | false => rfl
              | true =>
                obtain ⟨l, e, _⟩ := r3.lentAt hs3 hl
                exact absurd e (hnB l)
            exact r3.slot hs3 hl3 (List.length_set ..) fun i hi => List.getElem?_set_ne (Ne.symm hi)
        have r5 : Rs { (C.su a oe (.ref kc) d' pn' H').b with ex := C.ex } (ρ2.set j .no) (σ2.set j none) H2 := Rs.exTo r4 fun i y' hi' => noExn_at hn hi'
        exact Rs.hk (Hk := C.Hk) r5 ((r.fr.kt.trans ktH).trans kt2)
      refine hu a oe kc d' pn' H' vs hz.1 hz.2 hv (ρ'.set j (.exn y)) _ w (σ'.set j (some (.ref a))) H' _ r2 ⟨fun ρ2 σ2 H2 kt2 r3 hk => ?_, fun v nv ρ2 σ2 H2 kt2 r3 ok hk => ?_, fun ρ2 σ2 H2 kt2 r3 hk => ?_, fun ρ2 σ2 H2 kt2 r3 hk => ?_⟩
      · rw [W_chk, Bool.and_eq_true] at hk
        exact ac.nx _ _ H2 (ktH.trans kt2) (back kt2 r3 hk.1.1) hk.2
      · rw [W_chk, Bool.and_eq_true] at hk
        refine ac.rt v nv _ _ H2 (ktH.trans kt2) (back kt2 r3 hk.1.1) ?_ hk.2
        cases nv with
        | dat d => exact ok
        | lst ds =>
          obtain ⟨p, ws, g1, g2, g3⟩ := ok
          exact ⟨p, ws, g1, (g2.set_no fun i hi => List.getElem?_set_ne (Ne.symm hi)).to rfl, g3⟩
        | dic ds =>
          obtain ⟨p, ws, g1, g2, g3⟩ := ok
          exact ⟨p, ws, g1, (g2.set_no fun i hi => List.getElem?_set_ne (Ne.symm hi)).to rfl, g3⟩
        | ali i =>
          have hij : j ≠ i := fun z => by
            subst z
            have := hk.1.2
            have : (!Nat.beq j j) = true := this
            rw [Nat.beq_refl] at this
            cases this
          obtain ⟨g1, sv, g2, g3⟩ := ok
          exact ⟨by rw [List.getElem?_set_ne hij]; exact g1, sv, by rw [List.getElem?_set_ne hij]; exact g2, g3⟩
      · rw [W_chk, Bool.and_eq_true] at hk
        exact ac.bk _ _ H2 (ktH.trans kt2) (back kt2 r3 hk.1.1) hk.2
      · rw [W_chk, Bool.and_eq_true] at hk
        exact ac.ct _ _ H2 (ktH.trans kt2) (back kt2 r3 hk.1.1) hk.2
    · subst hbf
      exact ⟨y, ρ', ⟨kc, e1, rfl, e3⟩, rC, w⟩
  refine hb pn xe H kx' hC' po ρ k ?_ σ H E (Rs.hk (C := C.b) r (KT.refl H)) ⟨fun ρ1 σ1 H1 kt r1 hk => ac.nx ρ1 σ1 H1 kt (Rs.hk (Hk := C.Hk) r1 (r.fr.kt.trans kt)) hk, fun v nv ρ1 σ1 H1 kt r1 ok hk => ac.rt v nv ρ1 σ1 H1 kt (Rs.hk (Hk := C.Hk) r1 (r.fr.kt.trans kt)) (NvOk.to (C := (C.tr pn xe H kx').b) (C' := C.b) rfl rfl ok) hk, fun ρ1 σ1 H1 kt r1 hk => ac.bk ρ1 σ1 H1 kt (Rs.hk (Hk := C.Hk) r1 (r.fr.kt.trans kt)) hk, fun ρ1 σ1 H1 kt r1 hk => ac.ct ρ1 σ1 H1 kt (Rs.hk (Hk := C.Hk) r1 (r.fr.kt.trans kt)) hk⟩
  have q : W (tryR cls (fb ρ) c (some j) (fun ρ => fu ρ)) k C.kx := q
  cases hfb : fb ρ with
  | ok fl ρ1 => rw [hfb] at q; exact q
  | exc y ρ1 => rw [hfb] at q; exact q
  | bad => rw [hfb] at q; exact q
end
end SN
namespace SN
open PySem L2 NV
open DW (KT Ex Rp RpL WE WT WA WS WB Mp MpL DOp DOpL DCall DCallL WW DIx WI Wk pin pin_same pin_ne blkX WEb WTb)
/-! ### does x stand for e? -/
/-- where it stands: the names of the def, its scope, the names that are stored here, may it call, may it loop -/
structure Sc where
  N : List Str
  sc : Scope
  fn : Str → Bool
  calm : Bool
  loop : Bool
def Sc.blk (S : Sc) (scope : Scope) : Sc := ⟨S.N, relS scope S.sc, fun x => scope.names.lookup x == some .cell, S.calm, false⟩
/-- what the text's top says: constants, defs, built-in names that are not hidden -/
structure Top where
  cst : List (Str × PyData)
  fns : List Str
  non : List Str
def visB (sc : Scope) (x : Str) : Bool :=
  match sc.names.lookup x with
  | some .local => true
  | some .cell => true
  | some .free => true
  | _ => false
theorem visB_ok {sc : Scope} {x : Str} (h : visB sc x = true) : Vis sc x := by
  unfold visB at h
  split at h
  · rename_i e; exact .inl e
  · rename_i e; exact .inr (.inl e)
  · rename_i e; exact .inr (.inr e)
  · cases h
def plainN (x : Str) : Bool := !(x == ("__debug__" : Str)) && !(x == ("__classdict__" : Str))
def locB (S : Sc) (i : Nat) (x : Str) : Bool := decide (S.N[i]? = some x) && visB S.sc x && plainN x
def glB (S : Sc) (x : Str) : Bool := decide (S.sc.names.lookup x = some .globalImplicit)
def bltB (T : Top) (S : Sc) (x : Str) : Bool := glB S x && T.non.contains x
def constB : Const → PyData → Bool
  | .int i, .int j => decide (i = j)
  | .bool i, .bool j => decide (i = j)
  | .str i, .str j => decide (i = j)
  | .none, .none => true
  | _, _ => false
def datB : PyData → PyData → Bool
  | .int i, .int j => decide (i = j)
  | .str i, .str j => decide (i = j)
  | _, _ => false
/-- a name that is stored here -/
def tgnB (S : Sc) (x : Str) (i : Nat) : Bool := decide (S.N[i]? = some x) && (decide (S.sc.names.lookup x = some .local) || (decide (S.sc.names.lookup x = some .cell) && S.fn x))
def tgsB (S : Sc) : List Expr → List Nat → Bool
  | [], [] => true
  | .Name x _ :: es, i :: is => tgnB S x i && tgsB S es is
  | _, _ => false
def tgB (S : Sc) (e : Expr) (t : Tg) : Bool :=
  match t, e with
  | .nm i, .Name x _ => tgnB S x i
  | .tup is, .Tuple es _ _ => S.calm && tgsB S es is
  | _, _ => false
def ownOf (e : Expr) (t : Tg) : List (Str × Nat) :=
  match t, e with
  | .nm i, .Name x _ => [(x, i)]
  | .tup is, .Tuple es _ _ => (es.zip is).filterMap fun p => match p.1 with | .Name x _ => some (x, p.2) | _ => none
  | _, _ => []
def notSet : Expr → Bool
  | .Set _ _ _ => false
  | _ => true
def notSlice : Expr → Bool
  | .Slice _ _ _ _ => false
  | _ => true
def notComp : Expr → Bool
  | .ListComp _ _ _ _ => false
  | .SetComp _ _ _ _ => false
  | .DictComp _ _ _ _ _ => false
  | _ => true
def isTup : Expr → Bool
  | .Tuple _ _ _ => true
  | _ => false
def CstOk (mg : Str → Option Value) (x : Str) (d : PyData) : Prop := (∃ i t, d = .int i ∧ mg x = some (.int i t)) ∨ ∃ i t, d = .str i ∧ mg x = some (.str i t)
/-- what a context must keep -/
structure Ok (T : Top) (G : Pg) (S : Sc) (Φ : Calls) (C : Cn) : Prop where
  nd : C.X.N.Nodup
  N : C.X.N = S.N
  sc : C.X.env.scope = S.sc
  fn : ∀ x, S.fn x = true → C.X.fn x = true
  calm : S.calm = true → C.X.calm = true
  un : C.X.A.units + 200 < cLine
  gd : C.X.A.guards = some []
  cst : ∀ x d, T.cst.lookup x = some d → CstOk C.X.mg x d
  non : ∀ x, T.non.contains x = true → C.X.mg x = none
  cal : S.calm = true → ∀ x, T.fns.contains x = true → CalX C.X x (fsOf Φ x)
  raz : S.calm = true → ∀ c cl f, G.cls.lookup c = some cl → cl.fs = [f] → Raz C.X c f
  cla : ClsAll C.X.K C.X.mg G.cls
  exo : ExOk C
  tk : Takes C.X fun cls d σ H => C.xk σ cls d H
  po : S.loop = true → PassesOwn (model C.X.prog C.X.w) C.X.A C.X.env C.X.xe
  tr : S.loop = true → C.X.stack = C.X.env :: C.X.outer ∧ C.X.env.frame = some C.X.env.locals
  nex : S.calm = true → ∀ a d c, ¬ C.ex a d c
section
variable {T : Top} {G : Pg} {S : Sc} {Φ : Calls} {C : Cn}
theorem Ok.loc (O : Ok T G S Φ C) {i : Nat} {x : Str} (h : locB S i x = true) : C.X.N[i]? = some x ∧ Vis C.X.env.scope x ∧ (x == ("__debug__" : Str)) = false ∧ (x == ("__classdict__" : Str)) = false := by
  unfold locB plainN at h
  simp only [Bool.and_eq_true, decide_eq_true_eq, Bool.not_eq_true'] at h
  exact ⟨by rw [O.N]; exact h.1.1, by rw [O.sc]; exact visB_ok h.1.2, h.2.1, h.2.2⟩
theorem Ok.gl (O : Ok T G S Φ C) {x : Str} (h : glB S x = true) : Gl C.X x := by
  show C.X.env.scope.names.lookup x = _
  rw [O.sc]
  exact of_decide_eq_true h
theorem Ok.blt (O : Ok T G S Φ C) {x : Str} (h : bltB T S x = true) : Gl C.X x ∧ C.X.mg x = none := by
  unfold bltB at h
  rw [Bool.and_eq_true] at h
  exact ⟨O.gl h.1, O.non x h.2⟩
theorem Ok.pass (O : Ok T G S Φ C) : ∀ σ, PassesAt (L2.CX C.X.prog C.X.w) C.X σ (C.xk σ) := fun σ => passAt O.tk σ
theorem Ok.tgn (O : Ok T G S Φ C) {x : Str} {p : Pos} {i : Nat} (h : tgnB S x i = true) : TgName C.X (.Name x p) i := by
  unfold tgnB at h
  simp only [Bool.and_eq_true, Bool.or_eq_true, decide_eq_true_eq] at h
  obtain ⟨h1, h2⟩ := h
  refine ⟨x, p, rfl, by rw [O.N]; exact h1, ?_, ?_⟩
  · show Loc C.X.env.scope x
    rw [O.sc]
    rcases h2 with h2 | h2
    · exact .inl h2
    · exact .inr h2.1
  · rcases h2 with h2 | h2
    · exact .inr (by rw [O.sc]; exact h2)
    · exact .inl (O.fn x h2.2)
theorem Ok.tgs (O : Ok T G S Φ C) : ∀ {es : List Expr} {is : List Nat}, tgsB S es is = true → TgNames C.X es is
  | [], [], _ => .nil
  | .Name x p :: es, i :: is, h => by
    unfold tgsB at h
    rw [Bool.and_eq_true] at h
    exact .cons (O.tgn h.1) (O.tgs h.2)
  | [], _ :: _, h => nomatch h
  | .Name _ _ :: _, [], h => nomatch h
def gOf (K : PySem.W.Frag) : Tg → TG
  | .nm i => gName i
  | .tup is => gTup K is.length (gNames is)
theorem tg_of {K : PySem.W.Frag} (t : Tg) : TgOk K (gOf K t) t := by
  cases t with
  | nm i => exact tg_nm i
  | tup is => exact tg_tup is
theorem Ok.tg (O : Ok T G S Φ C) {e : Expr} {t : Tg} (h : tgB S e t = true) : PG C.X e (gOf C.X.K t) := by
  unfold tgB at h
  split at h
  · exact (O.tgn h).pg O.nd
  · rw [Bool.and_eq_true] at h
    obtain ⟨g1, g2, g3⟩ := (O.tgs h.2).pgs O.nd
    exact pg_tup (O.calm h.1) g1 g2 g3
  · cases h
/-- a comprehension's parts -/
theorem Ok.blk (O : Ok T G S Φ C) (scope : Scope) (s : Shared) (H : Hp) (C0 : Addr) (cl : List (Str × Addr)) (fp : List Addr) (Hx : Hp) (hcm : S.calm = true) : Ok T G (S.blk scope) Φ (C.blk scope s H C0 cl fp Hx) where
  nd := O.nd
  N := O.N
  sc := by
    show relS scope C.X.env.scope = relS scope S.sc
    rw [O.sc]
  fn := fun x h => h
  calm := O.calm
  un := O.un
  gd := O.gd
  cst := O.cst
  non := O.non
  cal := fun h x hx => ⟨(O.cal h x hx).ex⟩
  raz := fun h c cl f h1 h2 => ⟨(O.raz h c cl f h1 h2).ex⟩
  cla := O.cla
  exo := fun a d c h => absurd h (O.nex hcm a d c)
  tk := fun u s' x => by
    obtain ⟨_, _, _, _, _, _, _, _, _, _, _, _, _, _, _, _, y, ρ, _, _, z⟩ := x
    exact z.elim
  po := fun h => nomatch h
  tr := fun h => nomatch h
  nex := O.nex
end
end SN
namespace SN
open PySem L2 NV
open DW (KT Ex Rp RpL WE WT WA WS WB Mp MpL DOp DOpL DCall DCallL WW DIx WI Wk pin pin_same pin_ne blkX WEb WTb)
def ckL (f : Expr → X → Bool) : List Expr → List X → Bool
  | [], [] => true
  | e :: es, x :: xs => notStar e && (f e x && ckL f es xs)
  | _, _ => false
def ckO (f : Expr → X → Bool) : Option Expr → Option X → Bool
  | none, none => true
  | some e, some x => f e x
  | _, _ => false
def notIte : Expr → Bool
  | .IfExp _ _ _ _ => false
  | _ => true
def tyB (T : Top) (S : Sc) (ts : List Ty) (e : Expr) : Bool :=
  match ts, e with
  | [t], .Name w _ => decide (w = tyS t) && bltB T S w
  | [t, u], .Tuple [.Name w _, .Name v _] _ _ => decide (w = tyS t) && bltB T S w && (decide (v = tyS u) && bltB T S v)
  | _, _ => false
def walkB (T : Top) (S : Sc) (f : Expr → X → Bool) (tg iter : Expr) (x : X) : Bool :=
  match x with
  | .it k xs =>
    match iter with
    | .Call (.Name g _) ys [] _ => bltB T S g && (ckL f ys xs && (match k with
      | .range => decide (g = "range") && (decide (xs.length = 1) || (decide (xs.length = 2) || decide (xs.length = 3)))
      | .enum => decide (g = "enumerate") && (decide (xs.length = 1) && isTup tg)
      | .zip => decide (g = "zip") && (decide (xs.length = 2) && isTup tg)))
    | _ => false
  | _ => f iter x
def ck (T : Top) (G : Pg) : Nat → Sc → Expr → X → Bool
  | 0, _, _, _ => false
  | n + 1, S, e, x =>
    match x with
    | .loc i =>
      match e with
      | .Name y _ => locB S i y
      | _ => false
    | .cst d =>
      match e with
      | .Constant c _ _ => constB c d
      | .Name y _ => glB S y && (plainN y && (match T.cst.lookup y with | some d' => datB d' d | none => false))
      | _ => false
    | .bin op a b =>
      match e with
      | .BinOp l o r _ => decide (o = op) && (ck T G n S l a && ck T G n S r b)
      | _ => false
    | .cmp op a b =>
      match e with
      | .Compare l [o] [r] _ => decide (o = op) && (!behindInMarks o r && (ck T G n S l a && ck T G n S r b))
      | _ => false
    | .chain o1 o2 a b c =>
      match e with
      | .Compare l [p1, p2] [r, s] _ => decide (p1 = o1) && (decide (p2 = o2) && (!lastMarks [p1, p2] [r, s] && (ck T G n S l a && (ck T G n S r b && ck T G n S s c))))
      | _ => false
    | .neg a =>
      match a with
      | .cst (.int i) =>
        match e with
        | .UnaryOp .USub (.Constant (.int j) _ _) _ => decide (j = i)
        | _ => false
      | _ => false
    | .not a =>
      match e with
      | .UnaryOp .Not y _ => notIte y && ck T G n S y a
      | _ => false
    | .and a b =>
      match e with
      | .BoolOp .And [y, z] _ => notIte y && (notIte z && (ck T G n S y a && ck T G n S z b))
      | .BoolOp .And (y :: z :: w :: r) p => notIte y && (ck T G n S y a && ck T G n S (.BoolOp .And (z :: w :: r) p) b)
      | _ => false
    | .or a b =>
      match e with
      | .BoolOp .Or [y, z] _ => notIte y && (notIte z && (ck T G n S y a && ck T G n S z b))
      | .BoolOp .Or (y :: z :: w :: r) p => notIte y && (ck T G n S y a && ck T G n S (.BoolOp .Or (z :: w :: r) p) b)
      | _ => false
    | .ite c a b =>
      match e with
      | .IfExp y z w _ => notIte y && (ck T G n S y c && (ck T G n S z a && ck T G n S w b))
      | _ => false
    | .tup es =>
      match e with
      | .Tuple ys _ _ => decide (es.length ≤ 1000) && ckL (ck T G n S) ys es
      | _ => false
    | .lst es =>
      match e with
      | .List ys _ => decide (es.length ≤ 1000) && ckL (ck T G n S) ys es
      | _ => false
    | .idx a b =>
      match e with
      | .Subscript y z _ => notSlice z && (ck T G n S y a && ck T G n S z b)
      | _ => false
    | .slc a lo hi =>
      match e with
      | .Subscript y (.Slice l h none _) _ => ck T G n S y a && (ckO (ck T G n S) l lo && ckO (ck T G n S) h hi)
      | _ => false
    | .rev a hi =>
      match e with
      | .Subscript y (.Slice none h (some (.UnaryOp .USub (.Constant (.int 1) _ _) _)) _) _ => ck T G n S y a && ckO (ck T G n S) h hi
      | _ => false
    | .call f bs es =>
      match e with
      | .Call (.Name g _) ys [] _ => decide (g = f) && (S.calm && (glB S g && (T.fns.contains g && (plainN g && (decide (bs.length = es.length) && (decide (0 < es.length) && ckL (ck T G n S) ys es))))))
      | _ => false
    | .bi f es =>
      match e with
      | .Call (.Name g _) ys [] _ => decide (g = biS f) && (S.calm && (bltB T S g && ((decide (es.length = 1) || decide (es.length = 2)) && ckL (ck T G n S) ys es)))
      | _ => false
    | .isi a ts =>
      match e with
      | .Call (.Name g _) [y, z] [] _ => decide (g = "isinstance") && (bltB T S g && (notStar y && (tyB T S ts z && ck T G n S y a)))
      | _ => false
    | .isx i cs =>
      match cs with
      | [c] =>
        match e with
        | .Call (.Name g _) [.Name y _, .Name z _] [] _ => decide (g = "isinstance") && (bltB T S g && (locB S i y && (decide (z = c) && (glB S z && (plainN z && (G.cls.lookup c).isSome)))))
        | _ => false
      | _ => false
    | .mth o m es =>
      match o with
      | .loc i =>
        match e with
        | .Call (.Attribute (.Name y _) nm ap) ys [] cp => locB S i y && (ap.endLine == cp.line && (ckL (ck T G n S) ys es && (match m with
          | .append => decide (nm = "append") && decide (es.length = 1)
          | .extend => decide (nm = "extend") && decide (es.length = 1)
          | .pop => decide (nm = "pop") && decide (es.length = 0)
          | _ => false)))
        | _ => false
      | _ => false
    | .atr i f =>
      match e with
      | .Attribute (.Name y _) g _ => locB S i y && decide (g = f)
      | _ => false
    | .comp elt t it c =>
      match e with
      | .ListComp y gens scope _ =>
        match gens with
        | [⟨tg, iter, ifs, as⟩] => decide (as = 0) && (S.calm && (blkC S.N S.sc scope (ownOf tg t) && (decide ((ownOf tg t).map (·.2) = t.slots) && (tgB (S.blk scope) tg t && (notSet iter && (walkB T S (ck T G n S) tg iter it && (ck T G n (S.blk scope) y elt && (match ifs, c with
          | [], none => true
          | [i1], some c1 => notIte i1 && ck T G n (S.blk scope) i1 c1
          | _, _ => false))))))))
        | _ => false
      | _ => false
    | _ => false
/-- what is walked -/
def walkR (G : Pg) (Φ : Calls) (it : X) (ρ : Rho) : R (List PyData) := R.bind (evN G Φ it ρ) fun v ρ => R.bind (esc v ρ) fun d ρ => R.opt (iterF d) fun ds => .ok ds ρ
section
variable {T : Top} {G : Pg} {S : Sc} {Φ : Calls} {C : Cn} {f : Expr → X → Bool}
theorem walk_it {k : NV.It} {xs : List X} {ρ : Rho} : walkR G Φ (.it k xs) ρ = R.bind (evs G Φ xs ρ) fun ds ρ => R.opt (itF k ds) fun v => .ok v ρ := by
  unfold walkR
  rw [evN]
  cases evs G Φ xs ρ with
  | ok ds ρ1 =>
    show R.bind (R.opt (itF k ds) fun v => .ok (NV.NV.lst v) ρ1) _ = R.opt (itF k ds) fun v => .ok v ρ1
    cases itF k ds <;> rfl
  | exc x ρ1 => rfl
  | bad => rfl
theorem SI.mono {tg iter : Expr} {f g : Rho → R (List PyData)} (h : SI C tg iter f) (q : ∀ ρ k, W (g ρ) k C.kx → W (f ρ) k C.kx) : SI C tg iter g := fun ρ k w => h ρ k (q ρ k w)
theorem SE.mono {e : Expr} {f g : Rho → R NV} (h : SE C e f) (q : ∀ ρ k, W (g ρ) k C.kx → W (f ρ) k C.kx) : SE C e g := fun ρ k w => h ρ k (q ρ k w)
theorem ckL_all : ∀ {es : List Expr} {xs : List X}, ckL f es xs = true → es.all notStar = true ∧ es.length = xs.length
  | [], [], _ => ⟨rfl, rfl⟩
  | e :: es, x :: xs, h => by
    unfold ckL at h
    simp only [Bool.and_eq_true] at h
    obtain ⟨a, b⟩ := ckL_all h.2.2
    exact ⟨by rw [List.all_cons, h.1, a]; rfl, congrArg (· + 1) b⟩
  | [], _ :: _, h => nomatch h
  | _ :: _, [], h => nomatch h
theorem sa_of (ih : ∀ e x, f e x = true → SE C e fun ρ => evN G Φ x ρ) : ∀ {es : List Expr} {xs : List X}, ckL f es xs = true → SA C es fun ρ => evs G Φ xs ρ
  | [], [], _ => sa_nil.eq fun ρ => by rw [evs]
  | e :: es, x :: xs, h => by
    unfold ckL at h
    simp only [Bool.and_eq_true] at h
    exact (sa_cons (ih e x h.2.1) (sa_of ih h.2.2) (star_cons h.1)).eq fun ρ => by rw [evs]
  | [], _ :: _, h => nomatch h
  | _ :: _, [], h => nomatch h
theorem saa_of (ih : ∀ e x, f e x = true → SE C e fun ρ => evN G Φ x ρ) : ∀ {es : List Expr} {xs : List X} {bs : List Bool}, ckL f es xs = true → bs.length = xs.length → SAa C es fun ρ => eva G Φ bs xs ρ
  | [], [], [], _, _ => saa_nil.eq fun ρ => by rw [eva]
  | [e], [x], [true], h, _ => by
    unfold ckL at h
    simp only [Bool.and_eq_true] at h
    exact (saa_last (ih e x h.2.1) (star_cons h.1)).eq fun ρ => by rw [eva]
  | [e], [x], [false], h, hl => by
    unfold ckL at h
    simp only [Bool.and_eq_true] at h
    exact (saa_dat (ih e x h.2.1) (saa_of ih (bs := []) h.2.2 rfl) (star_cons h.1)).eq fun ρ => by rw [eva]
  | e :: e2 :: es, x :: x2 :: xs, b :: b2 :: bs, h, hl => by
    unfold ckL at h
    simp only [Bool.and_eq_true] at h
    have hl' : (b2 :: bs).length = (x2 :: xs).length := Nat.succ.inj hl
    cases b with
    | true => exact (saa_lent (ih e x h.2.1) (saa_of ih h.2.2 hl') (star_cons h.1)).eq fun ρ => by rw [eva] <;> simp
    | false => exact (saa_dat (ih e x h.2.1) (saa_of ih h.2.2 hl') (star_cons h.1)).eq fun ρ => by rw [eva]
  | [], _ :: _, _, h, _ => nomatch h
  | _ :: _, [], _, h, _ => nomatch h
  | [], [], _ :: _, _, h => nomatch h
  | [_], [_], [], _, h => nomatch h
  | [_], [_], _ :: _ :: _, _, h => nomatch h
  | _ :: _ :: _, [_], _, h, _ => by
    unfold ckL at h
    simp only [Bool.and_eq_true] at h
    exact nomatch h.2.2
  | [_], _ :: _ :: _, _, h, _ => by
    unfold ckL at h
    simp only [Bool.and_eq_true] at h
    exact nomatch h.2.2
  | _ :: _ :: _, _ :: _ :: _, [], _, h => nomatch h
  | _ :: _ :: _, _ :: _ :: _, [_], _, h => by simp at h
theorem so_of (ih : ∀ e x, f e x = true → SE C e fun ρ => evN G Φ x ρ) : ∀ {oe : Option Expr} {ox : Option X}, ckO f oe ox = true → SO C oe fun ρ => evo G Φ ox ρ
  | none, none, _ => so_none.eq fun ρ => by rw [evo]
  | some e, some x, h => (so_some (ih e x h)).eq fun ρ => by rw [evo]
  | none, some _, h => nomatch h
  | some _, none, h => nomatch h
theorem few_of {xs : List X} (h : xs.length ≤ 1000) : Few C fun ρ => evs G Φ xs ρ := fun ρ k w => W.mono (evs_len w) (fun ds ρ h' => ⟨by rw [h'.1]; exact Nat.le_trans h (by decide), h'.2⟩) fun _ _ h => h
theorem len_chk {xs : List X} {n : Nat} {α : Type} {g : List PyData → Rho → R α} (hl : xs.length = n) {ρ : Rho} {k : α → Rho → Prop} {E : Exc → Rho → Prop} (h : W (R.bind (evs G Φ xs ρ) g) k E) : W (R.bind (evs G Φ xs ρ) fun ds ρ => R.chk (decide (ds.length = n)) (g ds ρ)) k E := by
  rw [W_bind] at h ⊢
  refine W.mono (evs_len h) (fun ds ρ h => ?_) fun _ _ h => h
  rw [W_chk]
  exact ⟨decide_eq_true (h.1.trans hl), h.2⟩
theorem walk_of (O : Ok T G S Φ C) (ih : ∀ e x, f e x = true → SE C e fun ρ => evN G Φ x ρ) {tg iter : Expr} {x : X} (h : walkB T S f tg iter x = true) : SI C tg iter fun ρ => walkR G Φ x ρ := by
  unfold walkB at h
  split at h
  · rename_i k xs
    split at h
    · rename_i g p ys pr
      simp only [Bool.and_eq_true] at h
      obtain ⟨hb, hL, hk⟩ := h
      obtain ⟨hg, hm⟩ := O.blt hb
      have hA := sa_of (G := G) (Φ := Φ) ih hL
      obtain ⟨hst, hlen⟩ := ckL_all hL
      cases k with
      | range =>
        simp only [Bool.and_eq_true, Bool.or_eq_true, decide_eq_true_eq] at hk
        obtain ⟨rfl, hk⟩ := hk
        rcases hk with hk | hk | hk
        · match ys, hlen.trans hk with
          | [a], _ =>
            have ha : notStar a = true := by simpa using hst
            exact (si_range1 hA hm hg (star_cons ha)).mono fun ρ k w => by
              rw [walk_it] at w
              exact len_chk hk w
        · match ys, hlen.trans hk with
          | [a, b], _ =>
            have ha : notStar a = true ∧ notStar b = true := by simpa using hst
            exact (si_rng2 hA hm hg (by rw [star_cons ha.1, star_cons ha.2]; rfl) (star_cons ha.2)).mono fun ρ k w => by
              rw [walk_it] at w
              exact len_chk hk w
        · match ys, hlen.trans hk with
          | [a, b, c], _ =>
            have ha : notStar a = true ∧ notStar b = true ∧ notStar c = true := by simpa using hst
            exact (si_rng3 hA hm hg (star_cons ha.1) (star_any (by simp [ha.2.1, ha.2.2]))).mono fun ρ k w => by
              rw [walk_it] at w
              exact len_chk hk w
      | enum =>
        simp only [Bool.and_eq_true, decide_eq_true_eq] at hk
        obtain ⟨rfl, hk, ht⟩ := hk
        match ys, hlen.trans hk with
        | [a], _ =>
          have ha : notStar a = true := by simpa using hst
          cases tg with
          | Tuple elts kk tpos => exact (si_enum hA hm hg (star_cons ha)).eq fun ρ => walk_it
          | _ => cases ht
      | zip =>
        simp only [Bool.and_eq_true, decide_eq_true_eq] at hk
        obtain ⟨rfl, hk, ht⟩ := hk
        match ys, hlen.trans hk with
        | [a, b], _ =>
          have ha : notStar a = true ∧ notStar b = true := by simpa using hst
          cases tg with
          | Tuple elts kk tpos => exact (si_zip hA hm hg (star_cons ha.1) (star_any (by simp [ha.2]))).eq fun ρ => walk_it
          | _ => cases ht
    · cases h
  · exact si_dat (ih _ _ h)
end
end SN
set_option maxHeartbeats 8000000
namespace SN
open PySem L2 NV
open DW (KT Ex Rp RpL WE WT WA WS WB Mp MpL DOp DOpL DCall DCallL WW DIx WI Wk pin pin_same pin_ne blkX WEb WTb)
def isBO : Expr → Bool
  | .BoolOp _ _ _ => true
  | _ => false
/-- x stands for e here -/
structure Says (G : Pg) (Φ : Calls) (C : Cn) (e : Expr) (x : X) : Prop where
  se : SE C e fun ρ => evN G Φ x ρ
  st : notIte e = true → ST C e fun ρ => R.bind (evN G Φ x ρ) asBool
  sw : isBO e = true → STw C e fun ρ => R.bind (evN G Φ x ρ) asBool
section
variable {T : Top} {G : Pg} {S : Sc} {Φ : Calls} {C : Cn}
theorem Says.val {e : Expr} {x : X} (h : SE C e fun ρ => evN G Φ x ρ) (hb : isBO e = false) (he : ∀ whole, isTrue e C.X.env whole = (do let v ← whole; standAt e.pos; holding [v] (truthy v))) : Says G Φ C e x :=
  ⟨h, fun _ => st_val h he, fun z => by rw [hb] at z; cases z⟩
theorem pl_debug {x : Str} (h : plainN x = true) : (x == ("__debug__" : Str)) = false := by
  unfold plainN at h
  simp only [Bool.and_eq_true, Bool.not_eq_true'] at h
  exact h.1
theorem slots_names {tg : Expr} {t : Tg} : True := trivial
/-- the parts of a comprehension -/
theorem comp_of (O : Ok T G S Φ C) {scope : Scope} {tg elt : Expr} {t : Tg} {x : X} (hcm : S.calm = true) (hb : blkC S.N S.sc scope (ownOf tg t) = true) (hs : (ownOf tg t).map (·.2) = t.slots) (ht : tgB (S.blk scope) tg t = true) (he : ∀ C', Ok T G (S.blk scope) Φ C' → SE C' elt fun ρ => evN G Φ x ρ) :
    CompOk C scope (ownOf tg t) tg elt t (gOf C.X.K t) fun ρ => evN G Φ x ρ where
  ok := blkOk_by (by rw [O.N, O.sc]; exact hb)
  sl := hs
  pg := fun s H C0 cl fp => (O.blk scope s H C0 cl fp H hcm).tg ht
  tg := tg_of t
  el := fun s H C0 cl fp Hx => he _ (O.blk scope s H C0 cl fp Hx hcm)
theorem notSet_ok {e : Expr} {env : Env} (h : notSet e = true) : ∀ x, foldedSetIterable e env x = pure x := by
  intro x
  cases e <;> first | rfl | cases h
theorem comp_eq {elt it : X} {t : Tg} {c : Option X} {ρ : Rho} : evN G Φ (.comp elt t it c) ρ = lcR (fun ρ => walkR G Φ it ρ) (fun ρ => evN G Φ elt ρ) (fun ρ => evc G Φ c ρ) t ρ := by
  rw [evN]
  unfold lcR
  show _ = R.bind (walkR G Φ it ρ) _
  unfold walkR
  cases evN G Φ it ρ with
  | ok v ρ1 =>
    show R.bind (esc v ρ1) _ = R.bind (R.bind (esc v ρ1) _) _
    cases esc v ρ1 with
    | ok d ρ2 =>
      show R.opt (iterF d) _ = R.bind (R.opt (iterF d) _) _
      cases iterF d <;> rfl
    | exc x ρ2 => rfl
    | bad => rfl
  | exc x ρ1 => rfl
  | bad => rfl
theorem ck_ok : ∀ (n : Nat) (S : Sc) (C : Cn) (e : Expr) (x : X), Ok T G S Φ C → ck T G n S e x = true → Says G Φ C e x
  | 0, _, _, _, _, _, h => nomatch h
  | n + 1, S, C, e, x, O, h => by
    have ih := fun (C : Cn) (S : Sc) (O : Ok T G S Φ C) e x h => ck_ok n S C e x O h
    have ihE : ∀ e x, ck T G n S e x = true → SE C e fun ρ => evN G Φ x ρ := fun e x h => (ih C S O e x h).se
    cases x with
    | loc i =>
      unfold ck at h
      simp only at h
      split at h
      · obtain ⟨h1, h2, h3, h4⟩ := O.loc h
        exact .val (se_loc h1 h2 h3 h4 G Φ) rfl (fun _ => rfl)
      · cases h
    | cst d =>
      unfold ck at h
      simp only at h
      split at h
      · rename_i c k p
        cases c <;> cases d <;> first
          | (cases h; done)
          | (have h := of_decide_eq_true h; subst h; exact .val (se_int.eq fun ρ => by rw [evN]) rfl (fun _ => rfl))
          | (have h := of_decide_eq_true h; subst h; exact .val (se_str.eq fun ρ => by rw [evN]) rfl (fun _ => rfl))
          | (have h := of_decide_eq_true h; subst h; exact .val (se_bl.eq fun ρ => by rw [evN]) rfl (fun _ => rfl))
          | exact .val (se_non.eq fun ρ => by rw [evN]) rfl (fun _ => rfl)
      · rename_i y p
        simp only [Bool.and_eq_true] at h
        obtain ⟨hg, hp, hd⟩ := h
        split at hd
        · rename_i d' hl
          rcases O.cst y d' hl with ⟨i, t, rfl, hm⟩ | ⟨i, t, rfl, hm⟩
          · cases d <;> first | (cases hd; done) | (have hd := of_decide_eq_true hd; subst hd; exact .val ((se_globI hm (O.gl hg) (pl_debug hp)).eq fun ρ => by rw [evN]) rfl (fun _ => rfl))
          · cases d <;> first | (cases hd; done) | (have hd := of_decide_eq_true hd; subst hd; exact .val ((se_globS hm (O.gl hg) (pl_debug hp)).eq fun ρ => by rw [evN]) rfl (fun _ => rfl))
        · cases hd
      · cases h
    | bin op a b =>
      unfold ck at h
      simp only at h
      split at h
      · simp only [Bool.and_eq_true, decide_eq_true_eq] at h
        obtain ⟨rfl, h1, h2⟩ := h
        exact .val ((se_bin (ihE _ _ h1) (ihE _ _ h2)).eq fun ρ => by rw [evN]) rfl (fun _ => rfl)
      · cases h
    | cmp op a b =>
      unfold ck at h
      simp only at h
      split at h
      · simp only [Bool.and_eq_true, decide_eq_true_eq, Bool.not_eq_true'] at h
        obtain ⟨rfl, h0, h1, h2⟩ := h
        exact ⟨(se_cmp O.un (ihE _ _ h1) (ihE _ _ h2) h0).eq fun ρ => by rw [evN], fun _ => (st_cmp O.un (ihE _ _ h1) (ihE _ _ h2) h0).eq fun ρ => by rw [evN], fun z => nomatch z⟩
      · cases h
    | chain o1 o2 a b c =>
      unfold ck at h
      simp only at h
      split at h
      · simp only [Bool.and_eq_true, decide_eq_true_eq, Bool.not_eq_true'] at h
        obtain ⟨rfl, rfl, h0, h1, h2, h3⟩ := h
        exact ⟨(se_chain O.un (ihE _ _ h1) (ihE _ _ h2) (ihE _ _ h3) h0).eq fun ρ => by rw [evN]; rfl, fun _ => (st_chain O.un (ihE _ _ h1) (ihE _ _ h2) (ihE _ _ h3) h0).eq fun ρ => by rw [evN]; rfl, fun z => nomatch z⟩
      · cases h
    | neg a =>
      unfold ck at h
      simp only at h
      split at h
      · split at h
        · have h := of_decide_eq_true h
          subst h
          refine ⟨se_neg.eq fun ρ => by rw [evN], fun _ => ?_, fun z => nomatch z⟩
          exact st_val (se_neg.eq fun ρ => by rw [evN]) (fun _ => rfl)
        · cases h
      · cases h
    | not a =>
      unfold ck at h
      simp only at h
      split at h
      · simp only [Bool.and_eq_true] at h
        have I := ih C S O _ _ h.2
        exact ⟨(se_not I.se).eq fun ρ => by rw [evN], fun _ => (st_not (I.st h.1) fun _ => rfl).eq fun ρ => by rw [evN], fun z => nomatch z⟩
      · cases h
    | and a b =>
      unfold ck at h
      simp only at h
      split at h
      · simp only [Bool.and_eq_true] at h
        obtain ⟨n1, n2, h1, h2⟩ := h
        have I1 := ih C S O _ _ h1
        have I2 := ih C S O _ _ h2
        rename_i y z p
        have w : STw C (.BoolOp .And [y, z] p) fun ρ => R.bind (evN G Φ (.and a b) ρ) asBool := (stw_and (I1.st n1) (stw_one (I2.st n2))).eq fun ρ => by rw [evN]; rfl
        exact ⟨(se_and I1.se (se_one I2.se)).eq fun ρ => by rw [evN]; rfl, fun _ => w.st, fun _ => w⟩
      · simp only [Bool.and_eq_true] at h
        obtain ⟨n1, h1, h2⟩ := h
        have I1 := ih C S O _ _ h1
        have I2 := ih C S O _ _ h2
        have w := (stw_and (I1.st n1) (I2.sw rfl)).eq (g := fun ρ => R.bind (evN G Φ (.and a b) ρ) asBool) fun ρ => by rw [evN]; rfl
        exact ⟨(se_and I1.se I2.se).eq fun ρ => by rw [evN]; rfl, fun _ => w.st, fun _ => w⟩
      · cases h
    | or a b =>
      unfold ck at h
      simp only at h
      split at h
      · simp only [Bool.and_eq_true] at h
        obtain ⟨n1, n2, h1, h2⟩ := h
        have I1 := ih C S O _ _ h1
        have I2 := ih C S O _ _ h2
        rename_i y z p
        have w : STw C (.BoolOp .Or [y, z] p) fun ρ => R.bind (evN G Φ (.or a b) ρ) asBool := (stw_or (I1.st n1) (stw_one (I2.st n2))).eq fun ρ => by rw [evN]; rfl
        exact ⟨(se_or I1.se (se_one I2.se)).eq fun ρ => by rw [evN]; rfl, fun _ => w.st, fun _ => w⟩
      · simp only [Bool.and_eq_true] at h
        obtain ⟨n1, h1, h2⟩ := h
        have I1 := ih C S O _ _ h1
        have I2 := ih C S O _ _ h2
        have w := (stw_or (I1.st n1) (I2.sw rfl)).eq (g := fun ρ => R.bind (evN G Φ (.or a b) ρ) asBool) fun ρ => by rw [evN]; rfl
        exact ⟨(se_or I1.se I2.se).eq fun ρ => by rw [evN]; rfl, fun _ => w.st, fun _ => w⟩
      · cases h
    | ite c a b =>
      unfold ck at h
      simp only at h
      split at h
      · simp only [Bool.and_eq_true] at h
        obtain ⟨n1, h1, h2, h3⟩ := h
        exact ⟨(se_ite ((ih C S O _ _ h1).st n1) (ihE _ _ h2) (ihE _ _ h3) fun _ => rfl).eq fun ρ => by rw [evN], (fun z => nomatch z), (fun z => nomatch z)⟩
      · cases h
    | tup es =>
      unfold ck at h
      simp only at h
      split at h
      · simp only [Bool.and_eq_true, decide_eq_true_eq] at h
        exact .val ((se_tup (sa_of ihE h.2) (few_of h.1)).eq fun ρ => by rw [evN]) rfl (fun _ => rfl)
      · cases h
    | lst es =>
      unfold ck at h
      simp only at h
      split at h
      · simp only [Bool.and_eq_true, decide_eq_true_eq] at h
        exact .val ((se_lst (sa_of ihE h.2) (few_of h.1)).eq fun ρ => by rw [evN]) rfl (fun _ => rfl)
      · cases h
    | idx a b =>
      unfold ck at h
      simp only at h
      split at h
      · rename_i y z p
        simp only [Bool.and_eq_true] at h
        have hpl : PlainIx z := fun o i => by
          cases z <;> first | rfl | (cases h.1; done)
        exact .val ((se_idx O.un (ihE _ _ h.2.1) (ihE _ _ h.2.2) hpl).eq fun ρ => by rw [evN]) rfl (fun _ => rfl)
      · cases h
    | slc a lo hi =>
      unfold ck at h
      simp only at h
      split at h
      · simp only [Bool.and_eq_true] at h
        exact .val ((se_slc (ihE _ _ h.1) (so_of ihE h.2.1) (so_of ihE h.2.2)).eq fun ρ => by rw [evN]) rfl (fun _ => rfl)
      · cases h
    | rev a hi =>
      unfold ck at h
      simp only at h
      split at h
      · simp only [Bool.and_eq_true] at h
        exact .val ((se_rev (ihE _ _ h.1) (so_of ihE h.2)).eq fun ρ => by rw [evN]) rfl (fun _ => rfl)
      · cases h
    | call f bs es =>
      unfold ck at h
      simp only at h
      split at h
      · rename_i g p ys pos
        simp only [Bool.and_eq_true, decide_eq_true_eq] at h
        obtain ⟨rfl, hc, hg, hf, hp, hb, h0, hL⟩ := h
        obtain ⟨hst, hlen⟩ := ckL_all hL
        match ys, hlen, h0, hst, hL with
        | e :: ys, _, _, hst, hL =>
          rw [List.all_cons, Bool.and_eq_true] at hst
          exact .val ((se_call (O.cal hc g hf) (O.gl hg) O.pass (saa_of ihE hL hb) (pl_debug hp) (star_cons hst.1) (star_any hst.2)).eq fun ρ => by rw [evN]) rfl (fun _ => rfl)
        | [], hlen, h0, _, _ => rw [← hlen] at h0; exact absurd h0 (by decide)
      · cases h
    | bi f es =>
      unfold ck at h
      simp only at h
      split at h
      · rename_i g p ys pos
        simp only [Bool.and_eq_true, Bool.or_eq_true, decide_eq_true_eq] at h
        obtain ⟨rfl, hc, hb, hl, hL⟩ := h
        obtain ⟨hg, hm⟩ := O.blt hb
        obtain ⟨hst, hlen⟩ := ckL_all hL
        rcases hl with hl | hl
        · obtain ⟨xa, rfl⟩ := List.length_eq_one_iff.mp hl
          match ys, hlen, hst, hL with
          | [a], _, hst, hL =>
            have ha : notStar a = true := by simpa using hst
            unfold ckL at hL
            simp only [Bool.and_eq_true] at hL
            exact .val ((se_bi1 (O.calm hc) O.un O.gd (ihE _ _ hL.2.1) hg hm (star_cons ha)).eq fun ρ => by rw [evN, evb]) rfl (fun _ => rfl)
        · match es, hl, ys, hlen, hst, hL with
          | [xa, xb], hl, [a, b], _, hst, hL =>
            have ha : notStar a = true ∧ notStar b = true := by simpa using hst
            have hA := sa_of (G := G) (Φ := Φ) ihE hL
            refine .val ((se_bi2 (O.calm hc) hA hg hm (star_cons ha.1) (star_any (by simp [ha.2]))).mono fun ρ k w => ?_) rfl (fun _ => rfl)
            refine len_chk (xs := [xa, xb]) hl (g := fun ds ρ => R.opt (biF f ds) fun v => .ok v ρ) ?_
            have e1 : evb G Φ f [xa, xb] ρ = evs G Φ [xa, xb] ρ := by rw [evb, evs]; simp
            rw [evN, e1] at w
            exact w
      · cases h
    | isi a ts =>
      unfold ck at h
      simp only at h
      split at h
      · rename_i g p y z pos
        simp only [Bool.and_eq_true, decide_eq_true_eq] at h
        obtain ⟨rfl, hb, hs, ht, h1⟩ := h
        obtain ⟨hg, hm⟩ := O.blt hb
        unfold tyB at ht
        split at ht
        · simp only [Bool.and_eq_true, decide_eq_true_eq] at ht
          obtain ⟨rfl, hw⟩ := ht
          obtain ⟨hgT, hmT⟩ := O.blt hw
          exact .val ((se_isi1 (ihE _ _ h1) hm hmT hg hgT fun es => star_cons hs).eq fun ρ => by rw [evN]) rfl (fun _ => rfl)
        · simp only [Bool.and_eq_true, decide_eq_true_eq] at ht
          obtain ⟨⟨rfl, hw⟩, rfl, hv⟩ := ht
          obtain ⟨hgT, hmT⟩ := O.blt hw
          obtain ⟨hgU, hmU⟩ := O.blt hv
          exact .val ((se_isi2 (ihE _ _ h1) hm hmT hmU hg hgT hgU fun es => star_cons hs).eq fun ρ => by rw [evN]) rfl (fun _ => rfl)
        · cases ht
      · cases h
    | isx i cs =>
      unfold ck at h
      simp only at h
      split at h
      · split at h
        · rename_i g p y px z pz pos
          simp only [Bool.and_eq_true, decide_eq_true_eq] at h
          obtain ⟨rfl, hb, hl, rfl, hz, hp, hc⟩ := h
          obtain ⟨hg, hm⟩ := O.blt hb
          obtain ⟨h1, h2, h3, h4⟩ := O.loc hl
          exact .val ((se_isx1 O.exo O.cla h1 h2 h3 h4 hm hg (O.gl hz) (pl_debug hp) hc).eq fun ρ => by rw [evN]) rfl (fun _ => rfl)
        · cases h
      · cases h
    | mth o m es =>
      unfold ck at h
      simp only at h
      split at h
      · split at h
        · rename_i i y py nm ap ys cp
          simp only [Bool.and_eq_true] at h
          obtain ⟨hl, hln, hL, hm⟩ := h
          obtain ⟨h1, h2, h3, h4⟩ := O.loc hl
          obtain ⟨hst, hlen⟩ := ckL_all hL
          have hA := sa_of (G := G) (Φ := Φ) ihE hL
          cases m with
          | append =>
            simp only [Bool.and_eq_true, decide_eq_true_eq] at hm
            obtain ⟨rfl, hl1⟩ := hm
            match ys, hlen.trans hl1, hst, hA with
            | [a], _, hst, hA =>
              have ha : notStar a = true := by simpa using hst
              exact .val ((se_append h1 h2 h3 h4 hA ha hln).eq fun ρ => by conv => { lhs; rw [evN] }) rfl (fun _ => rfl)
          | extend =>
            simp only [Bool.and_eq_true, decide_eq_true_eq] at hm
            obtain ⟨rfl, hl1⟩ := hm
            match ys, hlen.trans hl1, hst, hA with
            | [a], _, hst, hA =>
              have ha : notStar a = true := by simpa using hst
              exact .val ((se_extend h1 h2 h3 h4 hA ha hln).eq fun ρ => by conv => { lhs; rw [evN] }) rfl (fun _ => rfl)
          | pop =>
            simp only [Bool.and_eq_true, decide_eq_true_eq] at hm
            obtain ⟨rfl, hl1⟩ := hm
            obtain rfl := List.length_eq_zero_iff.mp hl1
            match ys, hlen with
            | [], _ => exact .val ((se_pop (G := G) (Φ := Φ) h1 h2 h3 h4 hln).eq fun ρ => by conv => { lhs; rw [evN] }; simp only [evs]) rfl (fun _ => rfl)
          | get => cases hm
          | setdefault => cases hm
        · cases h
      · cases h
    | atr i f =>
      unfold ck at h
      simp only at h
      split at h
      · simp only [Bool.and_eq_true, decide_eq_true_eq] at h
        obtain ⟨hl, rfl⟩ := h
        obtain ⟨h1, h2, h3, h4⟩ := O.loc hl
        exact .val ((se_atr O.exo O.cla h1 h2 h3 h4).eq fun ρ => by rw [evN]) rfl (fun _ => rfl)
      · cases h
    | comp elt t it c =>
      unfold ck at h
      simp only at h
      split at h
      · split at h
        · rename_i y gens scope0 scope p tg iter ifs as
          simp only [Bool.and_eq_true, decide_eq_true_eq] at h
          obtain ⟨rfl, hc, hb, ho, ht, hs, hw, he, hi⟩ := h
          have K := comp_of (x := elt) O hc hb ho ht fun C' O' => (ih C' _ O' _ _ he).se
          have hI := walk_of O ihE hw
          split at hi
          · exact .val ((se_comp0 (O.calm hc) O.nd K hI (notSet_ok hs)).eq fun ρ => by rw [comp_eq]; congr 1) rfl (fun _ => rfl)
          · simp only [Bool.and_eq_true] at hi
            refine .val ((se_comp1 (O.calm hc) O.nd K (fun s H C0 cl fp Hx => (ih _ _ (O.blk _ s H C0 cl fp Hx hc) _ _ hi.2).st hi.1) hI (notSet_ok hs)).eq fun ρ => ?_) rfl (fun _ => rfl)
            rw [comp_eq]
            congr 1
          · cases hi
        · cases h
      · cases h
    | tups es => unfold ck at h; cases h
    | lsts es => unfold ck at h; cases h
    | star a => unfold ck at h; cases h
    | dct ks vs => unfold ck at h; cases h
    | it f es => unfold ck at h; cases h
    | comp2 a b c d e f => unfold ck at h; cases h
    | dcomp a b c d => unfold ck at h; cases h
end
end SN
set_option maxHeartbeats 8000000
namespace SN
open PySem L2 NV
open DW (KT Ex Rp RpL WE WT WA WS WB Mp MpL DOp DOpL DCall DCallL WW DIx WI Wk pin pin_same pin_ne blkX WEb WTb)
def Sc.su (S : Sc) : Sc := ⟨S.N, S.sc, S.fn, false, false⟩
/-- is the store exchanged with the letting go of a comprehension's names? -/
def swapB (sc : Scope) (y : Str) (py : Pos) : Expr → Bool
  | .ListComp _ _ s p => (if sc.kind.isAnnotationScope then ScopeKind.function else sc.kind) == .function && sc.names.lookup y == some .local && py.line == p.line && !(s.names.any fun (n, k) => n == y && (k == .local || k == .cell))
  | _ => false
def isLC : Expr → Bool
  | .ListComp _ _ _ _ => true
  | _ => false
theorem swap_ok {e : Expr} {y : Str} {py : Pos} {l : Nat} {env : Env} (h : notComp e = true ∨ isLC e = true) : swapsWith e (some (.Name y py)) l env = pure (swapB env.scope y py e) := by
  cases e with
  | ListComp elt gs s p => rfl
  | SetComp a b c d => rcases h with h | h <;> cases h
  | DictComp a b c d e => rcases h with h | h <;> cases h
  | _ => rfl
def parN (sc : Scope) (l : Nat) : List Expr → List Str
  | .Name x p :: es => if decide (sc.names.lookup x = some .local) && p.line == l then x :: parN sc l es else parN sc l es
  | _ :: es => parN sc l es
  | [] => []
def par2B (S : Sc) (x y : Str) (px py : Pos) (a b : Expr) : Bool :=
  decide ((if S.sc.kind.isAnnotationScope then ScopeKind.function else S.sc.kind) = .function) && (decide (S.sc.names.lookup x = some .local) && (decide (S.sc.names.lookup y = some .local) && (decide (py.line = px.line) && (decide (x ≠ y) && (notStar a && (notStar b && (!([a, b].all (foldedForSure 8)) && !([a, b].all (constantsAlone 8)))))))))
theorem par2_ok {S : Sc} {x y : Str} {px py pt pt2 : Pos} {kt k2 : Nat} {a b : Expr} {env : Env} (hs : env.scope = S.sc) (h : par2B S x y px py a b = true) : swappedStores [.Tuple [.Name x px, .Name y py] kt pt] (.Tuple [a, b] k2 pt2) env = pure (some [x, y]) := by
  unfold par2B at h
  simp only [Bool.and_eq_true, decide_eq_true_eq, Bool.not_eq_true'] at h
  obtain ⟨h1, h2, h3, h4, h5, h6, h7, h8, h9⟩ := h
  have hb : env.blockKind = .function := by unfold Env.blockKind; rw [hs]; exact h1
  have hx : env.kindOf x = some .local := by unfold Env.kindOf; rw [hs]; exact h2
  have hy : env.kindOf y = some .local := by unfold Env.kindOf; rw [hs]; exact h3
  have hne : (y == x) = false := by simpa using fun e => h5 e.symm
  have hpos : (Expr.Name x px).pos.line = px.line := rfl
  unfold swappedStores
  simp only [List.length_cons, List.length_nil, hb, h8, h9, hx, hy, h4, hpos, List.head?_cons, Option.map_some, Option.getD_some, List.filterMap_cons, List.filterMap_nil, List.eraseDups_cons, List.eraseDups_nil, beq_self_eq_true, Bool.and_self, if_true, List.filter_cons, List.filter_nil, hne]
  rw [if_neg (by decide), if_neg (fun hh => ?_)]
  · rfl
  · obtain ⟨e, he, hm⟩ := List.any_eq_true.mp hh
    rcases List.mem_cons.mp he with rfl | he
    · cases e <;> first | (cases hm; done) | (cases h6; done)
    · rcases List.mem_cons.mp he with rfl | he
      · cases e <;> first | (cases hm; done) | (cases h7; done)
      · cases he
def par3B (S : Sc) (x y z : Str) (px py pz : Pos) (a b c : Expr) : Bool :=
  decide ((if S.sc.kind.isAnnotationScope then ScopeKind.function else S.sc.kind) = .function) && (decide (S.sc.names.lookup x = some .local) && (decide (S.sc.names.lookup y = some .local) && (decide (S.sc.names.lookup z = some .local) && (decide (py.line = px.line) && (decide (pz.line = px.line) && (decide (x ≠ y) && (decide (x ≠ z) && (decide (y ≠ z) && (notStar a && (notStar b && (notStar c && (!([a, b, c].all (foldedForSure 8)) && !([a, b, c].all (constantsAlone 8))))))))))))))
theorem par3_ok {S : Sc} {x y z : Str} {px py pz pt pt2 : Pos} {kt k2 : Nat} {a b c : Expr} {env : Env} (hs : env.scope = S.sc) (h : par3B S x y z px py pz a b c = true) : swappedStores [.Tuple [.Name x px, .Name y py, .Name z pz] kt pt] (.Tuple [a, b, c] k2 pt2) env = pure (some [x, y, z]) := by
  unfold par3B at h
  simp only [Bool.and_eq_true, decide_eq_true_eq, Bool.not_eq_true'] at h
  obtain ⟨h1, h2, h3, h3z, h4, h4z, h5, h5z, h5y, h6, h7, h7z, h8, h9⟩ := h
  have hb : env.blockKind = .function := by unfold Env.blockKind; rw [hs]; exact h1
  have hx : env.kindOf x = some .local := by unfold Env.kindOf; rw [hs]; exact h2
  have hy : env.kindOf y = some .local := by unfold Env.kindOf; rw [hs]; exact h3
  have hz : env.kindOf z = some .local := by unfold Env.kindOf; rw [hs]; exact h3z
  have hne : (y == x) = false := by simpa using fun e => h5 e.symm
  have hne2 : (z == x) = false := by simpa using fun e => h5z e.symm
  have hne3 : (z == y) = false := by simpa using fun e => h5y e.symm
  have hpos : (Expr.Name x px).pos.line = px.line := rfl
  unfold swappedStores
  simp only [List.length_cons, List.length_nil, hb, h8, h9, hx, hy, hz, h4, h4z, hpos, List.head?_cons, Option.map_some, Option.getD_some, List.filterMap_cons, List.filterMap_nil, List.eraseDups_cons, List.eraseDups_nil, beq_self_eq_true, Bool.and_self, if_true, List.filter_cons, List.filter_nil, hne, hne2, hne3, Bool.not_false]
  rw [if_neg (by decide), if_neg (fun hh => ?_)]
  · rfl
  · obtain ⟨e, he, hm⟩ := List.any_eq_true.mp hh
    rcases List.mem_cons.mp he with rfl | he
    · cases e <;> first | (cases hm; done) | (cases h6; done)
    · rcases List.mem_cons.mp he with rfl | he
      · cases e <;> first | (cases hm; done) | (cases h7; done)
      · rcases List.mem_cons.mp he with rfl | he
        · cases e <;> first | (cases hm; done) | (cases h7z; done)
        · cases he
/-- an unpacking that is not exchanged -/
def unpB (es : List Expr) : Expr → Bool
  | .Tuple vs _ _ => (!decide (es.length = 2) && !decide (es.length = 3)) || vs.all (foldedForSure 8)
  | _ => true
theorem unp_ok {es : List Expr} {e : Expr} {kt : Nat} {pt : Pos} {env : Env} (h : unpB es e = true) : swappedStores [.Tuple es kt pt] e env = pure none := by
  cases e with
  | Tuple vs k p =>
    unfold unpB at h
    simp only [Bool.or_eq_true, Bool.and_eq_true, Bool.not_eq_true', decide_eq_false_iff_not] at h
    unfold swappedStores
    simp only
    rcases h with h | h
    · rw [if_pos]
      simp [h.1, h.2]
    · split
      · rfl
      · split
        · rfl
        · split
          · rfl
          · first | rfl | rw [if_pos h]
  | _ => rfl
end SN
set_option maxHeartbeats 8000000
namespace SN
open PySem L2 NV
open DW (KT Ex Rp RpL WE WT WA WS WB Mp MpL DOp DOpL DCall DCallL WW DIx WI Wk pin pin_same pin_ne blkX WEb WTb)
/-- does s stand for the statement? -/
def ckBl (f : Stmt → NV.S → Bool) : List Stmt → List NV.S → Bool
  | [], [] => true
  | s :: ss, x :: xs => f s x && ckBl f ss xs
  | _, _ => false
def ckS (T : Top) (G : Pg) (m : Nat) : Nat → Sc → Stmt → NV.S → Bool
  | 0, _, _, _ => false
  | n + 1, S, st, x =>
    match x with
    | .asg i x =>
      match st with
      | .Assign [.Name y py] e _ => tgnB S y i && ((notComp e || isLC e) && (ck T G m S e x && (!swapB S.sc y py e || decide (S.sc.names.lookup y = some .local))))
      | _ => false
    | .unp is x =>
      match st with
      | .Assign [.Tuple es _ _] e _ => S.calm && (tgsB S es is && (unpB es e && ck T G m S e x))
      | _ => false
    | .par is xs =>
      match is, xs with
      | [i, j], [a, b] =>
        match st with
        | .Assign [.Tuple [.Name x px, .Name y py] _ _] (.Tuple [e, f] _ _) _ => S.calm && (decide (S.N[i]? = some x) && (decide (S.N[j]? = some y) && (par2B S x y px py e f && (ck T G m S e a && ck T G m S f b))))
        | _ => false
      | [i, j, l], [a, b, c] =>
        match st with
        | .Assign [.Tuple [.Name x px, .Name y py, .Name z pz] _ _] (.Tuple [e, f, g] _ _) _ => S.calm && (decide (S.N[i]? = some x) && (decide (S.N[j]? = some y) && (decide (S.N[l]? = some z) && (par3B S x y z px py pz e f g && (ck T G m S e a && (ck T G m S f b && ck T G m S g c))))))
        | _ => false
      | _, _ => false
    | .put i k v =>
      match st with
      | .Assign [.Subscript (.Name x _) b _] a _ => locB S i x && (notSlice b && (ck T G m S b k && ck T G m S a v))
      | _ => false
    | .expr x =>
      match st with
      | .Expr e _ => notComp e && ck T G m S e x
      | _ => false
    | .ret x =>
      match st with
      | .Return (some e) _ => ck T G m S e x
      | _ => false
    | .ife c a b =>
      match st with
      | .If t p q _ => notIte t && (ck T G m S t c && (ckBl (ckS T G m n S) p a && ckBl (ckS T G m n S) q b))
      | _ => false
    | .whl c a =>
      match st with
      | .While t p [] _ => S.loop && (notIte t && (ck T G m S t c && ckBl (ckS T G m n S) p a))
      | _ => false
    | .for_ t it a =>
      match st with
      | .For tg iter p [] _ => S.loop && (S.calm && (tgB S tg t && (notSet iter && (walkB T S (ck T G m S) tg iter it && ckBl (ckS T G m n S) p a))))
      | _ => false
    | .pass =>
      match st with
      | .Pass _ => true
      | _ => false
    | .brk =>
      match st with
      | .Break _ => true
      | _ => false
    | .cnt =>
      match st with
      | .Continue _ => true
      | _ => false
    | .raise c xs =>
      match st with
      | .Raise (some (.Call (.Name d _) [e] [] _)) none _ => decide (d = c) && (S.calm && (glB S d && (plainN d && ((match G.cls.lookup c with | some cl => decide (cl.fs.length = 1) | none => false) && ckL (ck T G m S) [e] xs))))
      | _ => false
    | .try_ a c i b =>
      match i with
      | some j =>
        match st with
        | .Try p [.ExceptHandler (some (.Name d _)) (some nm) (s0 :: q) _] [] [] _ => decide (d = c) && (S.calm && (S.loop && (decide (S.N[j]? = some nm) && (decide (S.sc.names.lookup nm = some .local) && (glB S d && (plainN d && ((G.cls.lookup d).isSome && (ckBl (ckS T G m n S) p a && ckBl (ckS T G m n S.su) (s0 :: q) b))))))))
        | _ => false
      | none => false
section
variable {T : Top} {G : Pg} {S : Sc} {Φ : Calls} {C : Cn} {m : Nat}
theorem ckBl_ok {f : Stmt → NV.S → Bool} (h : ∀ st x, f st x = true → SS C st fun ρ => exS G Φ x ρ) : ∀ {ss : List Stmt} {xs : List NV.S}, ckBl f ss xs = true → SB C ss fun ρ => exB G Φ xs ρ
  | [], [], _ => sb_nil.eq fun ρ => by rw [exB]
  | s :: ss, x :: xs, q => by
    unfold ckBl at q
    rw [Bool.and_eq_true] at q
    exact (sb_cons (h s x q.1) (ckBl_ok h q.2)).eq fun ρ => by rw [exB]
  | [], _ :: _, q => nomatch q
  | _ :: _, [], q => nomatch q
theorem Ok.tryBody (O : Ok T G S Φ C) (hc : S.calm = true) {pn : List (Addr × Obj)} {xe : Value → Shared → Prop} {Hk : Hp} {kx : Exc → Rho → Prop} (tk : Takes (C.X.tr pn xe) fun cls d σ H => (C.tr pn xe Hk kx).xk σ cls d H) (po : PassesOwn (model C.X.prog C.X.w) C.X.A C.X.env xe) : Ok T G S Φ (C.tr pn xe Hk kx) where
  nd := O.nd
  N := O.N
  sc := O.sc
  fn := O.fn
  calm := O.calm
  un := O.un
  gd := O.gd
  cst := O.cst
  non := O.non
  cal := fun h x hx => ⟨(O.cal h x hx).ex⟩
  raz := fun h c cl f h1 h2 => ⟨(O.raz h c cl f h1 h2).ex⟩
  cla := O.cla
  exo := fun a d c h => absurd h (O.nex hc a d c)
  tk := tk
  po := fun _ => po
  tr := O.tr
  nex := O.nex
theorem Ok.suite (O : Ok T G S Φ C) {a : Addr} {oe : Obj} {k : Addr} {d : Option Addr} {pn : List (Addr × Obj)} {Hk : Hp} {vs : Array Value} (h1 : oe.cls = .ref k) (h2 : oe.dict = d) (h3 : oe.data = .fields vs) : Ok T G S.su Φ (C.su a oe (.ref k) d pn Hk) where
  nd := O.nd
  N := O.N
  sc := O.sc
  fn := O.fn
  calm := fun h => nomatch h
  un := O.un
  gd := O.gd
  cst := O.cst
  non := O.non
  cal := fun h => nomatch h
  raz := fun h => nomatch h
  cla := O.cla
  exo := fun a' d' c h => by
    obtain ⟨rfl, rfl, h5, _⟩ := h
    exact ⟨oe, k, vs, List.mem_cons_self, h5, h1, h2, h3⟩
  tk := fun u s' x => by
    obtain ⟨_, _, _, _, _, _, _, _, _, _, _, _, _, _, _, _, y, ρ, _, _, z⟩ := x
    exact z.elim
  po := fun h => nomatch h
  tr := fun h => nomatch h
  nex := fun h => nomatch h
theorem for_eq {t : Tg} {it : X} {a : List NV.S} {ρ : Rho} : exS G Φ (.for_ t it a) ρ = R.bind (walkR G Φ it ρ) fun ds ρ => forR t (fun ρ => exB G Φ a ρ) .t ds ρ := by
  rw [exS]
  unfold walkR
  cases evN G Φ it ρ with
  | ok v ρ1 =>
    show R.bind (esc v ρ1) _ = R.bind (R.bind (esc v ρ1) _) _
    cases esc v ρ1 with
    | ok d ρ2 =>
      show R.opt (iterF d) _ = R.bind (R.opt (iterF d) _) _
      cases iterF d <;> rfl
    | exc x ρ2 => rfl
    | bad => rfl
  | exc x ρ1 => rfl
  | bad => rfl
theorem ixne {N : List Str} {i j : Nat} {x y : Str} (h1 : N[i]? = some x) (h2 : N[j]? = some y) (h : x ≠ y) : i ≠ j := fun e => by
  subst e
  rw [h1] at h2
  exact h (Option.some.inj h2)
theorem ckS_ok : ∀ (n : Nat) (S : Sc) (C : Cn) (st : Stmt) (x : NV.S), Ok T G S Φ C → ckS T G m n S st x = true → SS C st fun ρ => exS G Φ x ρ
  | 0, _, _, _, _, _, h => nomatch h
  | n + 1, S, C, st, x, O, h => by
    have ih := fun (C : Cn) (S : Sc) (O : Ok T G S Φ C) st x h => ckS_ok n S C st x O h
    have ihB : ∀ {ss : List Stmt} {xs : List NV.S}, ckBl (ckS T G m n S) ss xs = true → SB C ss fun ρ => exB G Φ xs ρ := fun h => ckBl_ok (fun st x q => ih C S O st x q) h
    have ihE := fun e x h => ck_ok m S C e x O (Φ := Φ) h
    have ihX : ∀ e x, ck T G m S e x = true → SE C e fun ρ => evN G Φ x ρ := fun e x h => (ihE e x h).se
    cases x with
    | asg i x =>
      unfold ckS at h
      simp only at h
      split at h
      · rename_i y py e p
        simp only [Bool.and_eq_true, Bool.or_eq_true, Bool.not_eq_true', decide_eq_true_eq] at h
        obtain ⟨ht, hn, hx, hs⟩ := h
        obtain ⟨y', p', e0, g1, g2, g3⟩ := O.tgn (p := py) ht
        cases e0
        have hsw := swap_ok (e := e) (y := y) (py := py) (l := p.line) (env := C.X.env) hn
        rw [O.sc] at hsw
        cases hb : swapB S.sc y py e with
        | false =>
          rw [hb] at hsw
          exact (ss_asg (ihX _ _ hx) O.nd g1 g2 hsw g3).eq fun ρ => by rw [exS]
        | true =>
          rw [hb] at hsw
          have hloc : S.sc.names.lookup y = some .local := by
            rcases hs with hs | hs
            · rw [hb] at hs; cases hs
            · exact hs
          cases e with
          | ListComp elt gens scope pc =>
            cases m with
            | zero => cases hx
            | succ m =>
              cases x with
              | comp xe t it c =>
                unfold ck at hx
                simp only at hx
                split at hx
                · rename_i tg iter ifs as
                  simp only [Bool.and_eq_true, decide_eq_true_eq] at hx
                  obtain ⟨rfl, hc, hbk, ho, htg, hns, hw, he, hi⟩ := hx
                  have ih' := fun (C : Cn) (S : Sc) (O : Ok T G S Φ C) e x h => ck_ok m S C e x O (Φ := Φ) h
                  have K := comp_of (x := xe) O hc hbk ho htg fun C' O' => (ih' C' _ O' _ _ he).se
                  have hI := walk_of O (fun e x h => (ih' C S O e x h).se) hw
                  have hl' : C.X.env.scope.names.lookup y = some .local := by rw [O.sc]; exact hloc
                  split at hi
                  · refine (ss_asgLc0 (O.calm hc) O.nd K hI (notSet_ok hns) g1 hl' hsw).eq fun ρ => ?_
                    rw [exS, comp_eq]
                    congr 1
                  · simp only [Bool.and_eq_true] at hi
                    refine (ss_asgLc1 (O.calm hc) O.nd K (fun s H C0 cl fp Hx => (ih' _ _ (O.blk _ s H C0 cl fp Hx hc) _ _ hi.2).st hi.1) hI (notSet_ok hns) g1 hl' hsw).eq fun ρ => ?_
                    rw [exS, comp_eq]
                    congr 1
                  · cases hi
                · cases hx
              | _ => unfold ck at hx; simp only at hx; first | (cases hx; done) | (split at hx <;> cases hx)
          | _ => cases hb
      · cases h
    | unp is x =>
      unfold ckS at h
      simp only at h
      split at h
      · rename_i es kk tp e p
        simp only [Bool.and_eq_true] at h
        obtain ⟨hc, ht, hu, hx⟩ := h
        exact (ss_unp (O.calm hc) O.nd (ihX _ _ hx) (O.tgs ht) (by cases e <;> rfl) (unp_ok hu)).eq fun ρ => by rw [exS]
      · cases h
    | par is xs =>
      unfold ckS at h
      simp only at h
      split at h
      · split at h
        · rename_i i j a b x px y py kt pt e f k2 pt2 p
          simp only [Bool.and_eq_true, decide_eq_true_eq] at h
          obtain ⟨hc, h1, h2, hp, h3, h4⟩ := h
          have hp' := hp
          unfold par2B at hp'
          simp only [Bool.and_eq_true, decide_eq_true_eq] at hp'
          obtain ⟨_, hx, hy, _, hne, n1, n2, _⟩ := hp'
          exact (ss_par2 (O.calm hc) O.nd (sap_cons (ihX _ _ h3) (sap_last (ihX _ _ h4) n2) n1) (by rw [O.N]; exact h1) (by rw [O.N]; exact h2) (ixne h1 h2 hne) (by rw [O.sc]; exact hx) (by rw [O.sc]; exact hy) (par2_ok O.sc hp)).eq fun ρ => by
            rw [exS]
            simp only [evp]
        · cases h
      · split at h
        · rename_i i j l a b c x px y py z pz kt pt e f g k2 pt2 p
          simp only [Bool.and_eq_true, decide_eq_true_eq] at h
          obtain ⟨hc, h1, h2, h2z, hp, h3, h4, h5⟩ := h
          have hp' := hp
          unfold par3B at hp'
          simp only [Bool.and_eq_true, decide_eq_true_eq] at hp'
          obtain ⟨_, hx, hy, hz, _, _, hxy, hxz, hyz, n1, n2, n3, _⟩ := hp'
          exact (ss_par3 (O.calm hc) O.nd (sap_cons (ihX _ _ h3) (sap_cons (ihX _ _ h4) (sap_last (ihX _ _ h5) n3) n2) n1) (by rw [O.N]; exact h1) (by rw [O.N]; exact h2) (by rw [O.N]; exact h2z) (ixne h1 h2 hxy) (ixne h1 h2z hxz) (ixne h2 h2z hyz) (by rw [O.sc]; exact hx) (by rw [O.sc]; exact hy) (by rw [O.sc]; exact hz) (par3_ok O.sc hp)).eq fun ρ => by
            rw [exS]
            simp only [evp]
        · cases h
      · cases h
    | put i k v =>
      unfold ckS at h
      simp only at h
      split at h
      · rename_i x px b ps a p
        simp only [Bool.and_eq_true] at h
        obtain ⟨hl, hn, h1, h2⟩ := h
        obtain ⟨g1, g2, g3, g4⟩ := O.loc hl
        refine (ss_put O.un g1 g2 g3 g4 (ihX _ _ h1) (ihX _ _ h2) (by cases a <;> rfl) (by cases a <;> rfl) (fun v => ?_)).eq fun ρ => by rw [exS]
        cases b <;> first | rfl | (cases hn; done)
      · cases h
    | expr x =>
      unfold ckS at h
      simp only at h
      split at h
      · rename_i e p
        simp only [Bool.and_eq_true] at h
        exact (ss_expr (ihX _ _ h.2) (by cases e <;> first | rfl | (cases h.1; done))).eq fun ρ => by rw [exS]
      · cases h
    | ret x =>
      unfold ckS at h
      simp only at h
      split at h
      · exact (ss_ret (ihX _ _ h)).eq fun ρ => by rw [exS]
      · cases h
    | ife c a b =>
      unfold ckS at h
      simp only at h
      split at h
      · simp only [Bool.and_eq_true] at h
        obtain ⟨hn, h1, h2, h3⟩ := h
        exact (ss_if ((ihE _ _ h1).st hn) (ihB h2) (ihB h3)).eq fun ρ => by rw [exS]
      · cases h
    | whl c a =>
      unfold ckS at h
      simp only at h
      split at h
      · simp only [Bool.and_eq_true] at h
        obtain ⟨hl, hn, h1, h2⟩ := h
        exact (ss_while (O.po hl) ((ihE _ _ h1).st hn) (ihB h2)).eq fun ρ => by rw [exS]
      · cases h
    | for_ t it a =>
      unfold ckS at h
      simp only at h
      split at h
      · simp only [Bool.and_eq_true] at h
        obtain ⟨hl, hc, ht, hs, hw, h2⟩ := h
        exact (ss_for (O.po hl) (O.calm hc) (notSet_ok hs) (walk_of O ihX hw) (O.tg ht) (tg_of t) (ihB h2)).eq fun ρ => for_eq
      · cases h
    | pass =>
      unfold ckS at h
      simp only at h
      split at h
      · exact ss_pass.eq fun ρ => by rw [exS]
      · cases h
    | brk =>
      unfold ckS at h
      simp only at h
      split at h
      · exact ss_brk.eq fun ρ => by rw [exS]
      · cases h
    | cnt =>
      unfold ckS at h
      simp only at h
      split at h
      · exact ss_cnt.eq fun ρ => by rw [exS]
      · cases h
    | raise c xs =>
      unfold ckS at h
      simp only at h
      split at h
      · rename_i d p e pos2 pos
        simp only [Bool.and_eq_true, decide_eq_true_eq] at h
        obtain ⟨rfl, hc, hg, hp, hcl, hL⟩ := h
        split at hcl
        · rename_i cl hlk
          obtain ⟨f, hf⟩ := List.length_eq_one_iff.mp (of_decide_eq_true hcl)
          obtain ⟨hst, _⟩ := ckL_all hL
          have he : notStar e = true := by simpa using hst
          exact (ss_raise1 (O.calm hc) O.tk (O.raz hc d cl f hlk hf) hlk hf (O.gl hg) (pl_debug hp) (sa_of ihX hL) he).eq fun ρ => by rw [exS]
        · cases hcl
      · cases h
    | try_ a c i b =>
      unfold ckS at h
      simp only at h
      split at h
      · split at h
        · rename_i j p d dp nm s0 q hp pos
          simp only [Bool.and_eq_true, decide_eq_true_eq] at h
          obtain ⟨rfl, hc, hl, hN, hlo, hg, hpl, hcl, h1, h2⟩ := h
          obtain ⟨cl, hlk⟩ := Option.isSome_iff_exists.mp hcl
          obtain ⟨kd, Kd⟩ := O.cla d cl hlk
          obtain ⟨t1, t2⟩ := O.tr hl
          refine (ss_try (cls := G.cls) (cv := .ref kd) t1 t2 O.nd (by rw [O.N]; exact hN) (by show C.X.env.scope.names.lookup nm = _; rw [O.sc]; exact hlo) ⟨O.gl hg, pl_debug hpl, .inl Kd.at_⟩ O.tk (O.nex hc) (fun y cl' k' e1 e2 => ?_) (fun pn xe Hk kx tk po => ?_) (fun a' oe k d' pn Hk vs e1 e2 e3 => ?_)).eq fun ρ => by rw [exS]
          · obtain ⟨k2, K2⟩ := O.cla y cl' e1
            have ek : k' = k2 := by
              have := K2.at_
              rw [e2] at this
              cases this
              rfl
            subst ek
            exact (K2.up d cl kd hlk Kd.at_).2
          · exact ckBl_ok (fun st x q => ih _ S (O.tryBody hc tk po) st x q) h1
          · exact ckBl_ok (fun st x q => ih _ S.su (O.suite e1 e2 e3) st x q) h2
        · cases h
      · cases h
end
end SN
set_option maxHeartbeats 8000000
namespace SN
open PySem L2 NV PyProof.Rows
open DW (KT Ex Rp RpL WE WT WA WS WB Mp MpL DOp DOpL DCall DCallL WW DIx WI Wk pin pin_same pin_ne blkX WEb WTb Df)
theorem law_runX {P : Program} {w : World} {K : PySem.W.Frag} {mg mb : Str → Option Value} {k : Nat} {fa a : Addr} {fd : FuncData} {x : Str} {s1 : Shared} {us : List Value} {ns : List Int} {fs : FS}
    (kin : K.In s1.heap) (gl : s1.heap.Ns mainGlobals mg) (bl : s1.heap.Ns builtinsNs mb) (bb : ∀ x : Str, x ≠ "__name__" → mb x = bootBuiltins x) (nolim : s1.heap.NoLimit) (gens : s1.gens = #[])
    (ha : s1.heap.get? a = some { cls := .type "list", data := .seq us.toArray }) (hi : IntsAre us ns) (hl : ns.length ≤ 63) (hr : Room k callerA)
    (F : ∀ base : Heap, K.In base → base.Ns mainGlobals mg → FnX P w K mg base k fa fd [x] (spOf K mg fs)) (hb : Binds K fd [x] []) (hfs : fs [.scr ns] (fun nv _ => nv = .dat (.bool true)) fun _ _ => False) :
    codeAny (model P w) callerA (.call (.ref fa) ⟨[.ref a], []⟩) (fun r s' => r = .ok (.ret (.bool true)) ∧ OldK s1.heap s'.heap ∧ s'.os = s1.os ∧ AllBare s'.gens) s1 := by
  have rv : Vals (ns.map V.int) us := vals_of_ints hi
  have hlen : ns.length = us.length := by rw [← rv.length, List.length_map]
  have main : ∀ H : Hp, (∀ b u, H b = some u → b = a ∧ ∃ o xs, u = .frz o (.lst xs)) → (H a ≠ none → K.lookup a = none) → DW.SqS K H a (ns.map V.int) → HOk P w H s1.heap →
      codeAny (model P w) callerA (.call (.ref fa) ⟨[.ref a], []⟩) (fun r s' => r = .ok (.ret (.bool true)) ∧ OldK s1.heap s'.heap ∧ s'.os = s1.os ∧ AllBare s'.gens) s1 := by
    intro H hO hK hS hok
    have dictFree : ∀ {b : Addr} {o : Obj} {es : Array DictEntry} {ep : Nat}, s1.heap.get? b = some o → o.data = .dict es ep → H b = none := by
      intro b o es ep e d
      cases q : H b with
      | none => rfl
      | some u =>
        obtain ⟨rfl, _⟩ := hO b u q
        rw [ha] at e
        cases e
        cases d
    have nsB : ∀ {b : Addr} {m : Str → Option Value}, s1.heap.Ns b m → (hidT s1.heap H).Ns b m := by
      rintro b m ⟨o, es, ep, e, d, r⟩
      exact ⟨o, es, ep, hidT_get e (dictFree e d), d, r⟩
    have kB : K.In (hidT s1.heap H) := by
      intro b o e
      refine hidT_get (kin b o e) ?_
      cases q : H b with
      | none => rfl
      | some u =>
        obtain ⟨rfl, _⟩ := hO b u q
        rw [hK (by rw [q]; simp)] at e
        cases e
    obtain ⟨mc, n1, n2⟩ := nolim
    have e0 : Env0 P w K mg (hidT s1.heap H) callerA [] s1 H := {
      frames := rfl
      mod := ⟨kB, nsB gl, ⟨mb, nsB bl, bb⟩, ⟨mc, nsB n1, n2⟩⟩
      bs := fun b o e => of_hidT e
      bsz := Nat.le_of_eq (hidT_size _ _)
      funs := trivial
      frf := by intro b z; cases z
      hok := hok
      bare := .of_eq gens }
    have hsp : spOf K mg fs [.ref a] H (fun v _ => v = .bl true) (fun _ _ _ => False) := by
      refine ⟨[.scr ns], [none], fun nv _ => nv = .dat (.bool true), fun _ _ => False, .scr hS .nil, hfs, ?_, fun _ _ _ _ _ _ _ _ z => z.elim⟩
      rintro v rv fin H' _ ok _ rfl
      exact (Mp.rp ok).bl
    refine codeAny_mono ((F _ kB (nsB gl)).run callerA [] s1 H ⟨[.ref a], []⟩ [.ref a] [.ref a] _ _ hr rfl e0 (hb s1 [.ref a] kin rfl) (.cons rfl .nil) hsp) ?_
    intro r s' h
    match r, h with
    | .error e, h =>
      obtain ⟨_, _, _, _, _, _, _, _, _, _, _, _, z⟩ := h
      exact z.elim
    | .ok .next, h => exact h.elim
    | .ok .brk, h => exact h.elim
    | .ok .cont, h => exact h.elim
    | .ok (.ret u), h =>
      obtain ⟨v, H', os, bare, un, hok', r', q⟩ := h
      subst q
      cases r'
      refine ⟨rfl, OldK.of_keep ?_, os, bare⟩
      intro b o e
      cases q : H b with
      | none => exact un.keep b o e q (by intro z; cases z) (by intro z; cases z)
      | some u =>
        obtain ⟨_, ob, xs, rfl⟩ := hO b u q
        have q2 := un.frzs b ob _ q
        have e1 := (hok b _ q).1
        have e2 := (hok' b _ q2).1
        rw [e] at e1
        cases e1
        exact e2
  cases hk : K.lookup a with
  | some o =>
    have e := kin a o hk
    rw [ha] at e
    cases e
    refine main (fun _ => none) (by intro b u z; cases z) (fun z => absurd rfl z) (.inr ⟨_, us.toArray, _, hk, rfl, rfl, rfl, ?_, by simpa using rv⟩) (by intro b u z; cases z)
    rw [List.size_toArray, ← hlen]
    exact Nat.le_trans hl (by decide)
  | none =>
    have hsz : (ns.map V.int).length ≤ sizeLine := by rw [List.length_map]; exact Nat.le_trans hl (by decide)
    refine main (DW.pin (fun _ => none) a (.frz { cls := .type "list", data := .seq us.toArray } (.lst (ns.map V.int)))) ?_ (fun _ => hk) (.inl ⟨_, pin_same⟩) ?_
    · intro b u z
      by_cases hb : b = a
      · subst hb
        rw [pin_same] at z
        cases z
        exact ⟨rfl, _, _, rfl⟩
      · rw [pin_ne hb] at z
        cases z
    · intro b u z
      by_cases hb : b = a
      · subst hb
        rw [pin_same] at z
        cases z
        exact ⟨ha, hsz, us, _, rv, ha⟩
      · rw [pin_ne hb] at z
        cases z
theorem walk_lawX {l : PySem.W.OpenLaw} {k : Nat} {q : Program} {loose : List Str} {XP : (Str → Option Value) → Heap → Prop} {YP : World → Heap → Prop} {d : DefRec} {K : Params → PySem.W.Frag} {x : Str} {fs : FS}
    (hn : l.most = some 63) (hdf : d.params.defaults = []) (hr : Room k callerA) (hfs : ∀ ns : List Int, ns.length ≤ 63 → fs [.scr ns] (fun nv _ => nv = .dat (.bool true)) fun _ _ => False) (hY : ∀ (w : World) (h : Heap), YP w h → (K w.params).In h)
    (F : ∀ (w : World) (mg : Str → Option Value) (h : Heap), (K w.params).In h → h.Ns mainGlobals mg →
      ∃ (fa : Addr) (fd : FuncData), mg d.name = some (.ref fa) ∧ Binds (K w.params) fd [x] [] ∧ ∀ base : Heap, (K w.params).In base → base.Ns mainGlobals mg → FnX l.prog w (K w.params) mg base k fa fd [x] (spOf (K w.params) mg fs)) :
    PySem.W.WalkO q loose XP YP l.row.toRowW d [] (fun f vs => PySem.call f vs) := by
  refine Att.attach_call hn hdf ?_
  intro w s0 s1 mg mb fa o pm cd doc a vs ns G Y ho hd hcd hmg hobj hints hlen hg
  have kin := hY w _ Y
  obtain ⟨fa', fd, hfa, hb, hF⟩ := F w mg _ kin G.T.g
  rw [hmg] at hfa
  cases hfa
  exact law_runX kin G.T.g G.T.b G.T.builtins G.T.nolimit hg hobj hints hlen hr hF hb (hfs ns hlen)

/-! ### the whole text -/
/-- what stands behind the text's top -/
structure TopOk (T : Top) (G : Pg) (K : PySem.W.Frag) (mg : Str → Option Value) : Prop where
  cst : ∀ x d, T.cst.lookup x = some d → CstOk mg x d
  non : ∀ x, T.non.contains x = true → mg x = none
  cla : ClsAll K mg G.cls
  raz : ∀ c cl f, G.cls.lookup c = some cl → cl.fs = [f] → ∃ (k fI : Addr) (fd : FuncData) (ps : List Str), OexC K k ∧ PySem.W.findIn K (.ref k) "__init__" = some (some (.ref fI)) ∧ PySem.W.typeIn K (.ref fI) = some (.type "function") ∧
    (∀ (P : Program) (w : World) (base : Heap), FnOk P w K mg base (L2.CX P w) 1 fI fd ps (spIni K f)) ∧ Binds K fd ps [] ∧ mg c = some (.ref k) ∧ PySem.W.findIn K (.ref k) f = some none
def topS (N : List Str) (st : Stmt) : Sc := ⟨N, defScope st, fun _ => true, true, true⟩
/-- the def x of the text is d -/
structure DefOk (T : Top) (G : Pg) (K : PySem.W.Frag) (mg : Str → Option Value) (x : Str) (d : Fn) : Prop where
  ex : ∃ (st : Stmt) (N ps : List Str) (m n : Nat), Df K mg x st ps ∧ FnScope N ps (defScope st) ∧ d.np = ps.length ∧ d.nl = N.length ∧ ckBl (ckS T G m n (topS N st)) (defBody st) d.body = true
/-- x may be called by level k -/
structure FnAt (P : Program) (w : World) (K : PySem.W.Frag) (mg : Str → Option Value) (base : Heap) (k : Nat) (x : Str) (fs : FS) : Prop where
  ex : ∃ (f : Addr) (fd : FuncData) (ps : List Str), FnX P w K mg base k f fd ps (spOf K mg fs) ∧ mg x = some (.ref f) ∧ PySem.W.keepIn K (.ref f) = true ∧ Binds K fd ps []
section
variable {T : Top} {G : Pg} {P : Program} {w : World} {K : PySem.W.Frag} {mg : Str → Option Value} {base : Heap}
theorem call_eq {n : Nat} {x : Str} {d : Fn} {avs : List SV} (h : G.fns.lookup x = some d) : NV.call G (n + 1) x avs = callB d.np d.nl (fun ρ => exB G (NV.call G n) d.body ρ) avs := by
  rw [NV.call, h]
  rfl
theorem body_ok {qual : Str} {st : Stmt} {N ps : List Str} {f : Addr} {cdv : Value} {A : Around} {outer : List Env} {s : Shared} {H : Hp} {E : XK} {B : List (Option Addr)} {kx : Exc → Rho → Prop} {n : Nat} {Φ : Calls} (TO : TopOk T G K mg) (S : FnScope N ps (defScope st))
    (hF : ∀ x, T.fns.contains x = true → FnAt P w K mg base (n + 2) x (fsOf Φ x)) (hr : Room (n + 2) (A.deeper (PyProof.Rows.envOfC qual (defScope st) s.heap.objs.size f cdv))) (hgd : A.guards = some [])
    (tk : Takes (fcx P w K mg base N qual st f cdv A outer s H E) (fun cls d σ H' => (bodyC P w K mg base N qual st f cdv A outer s H E B kx).xk σ cls d H')) : Ok T G (topS N st) Φ (bodyC P w K mg base N qual st f cdv A outer s H E B kx) where
  nd := S.nd
  N := rfl
  sc := rfl
  fn := fun _ _ => rfl
  calm := fun _ => rfl
  un := by
    have := hr.un
    show (A.deeper (PyProof.Rows.envOfC qual (defScope st) s.heap.objs.size f cdv)).units + 200 < cLine
    omega
  gd := hgd
  cst := TO.cst
  non := TO.non
  cal := fun _ x hx => by
    obtain ⟨f', fd, ps', F, hm, hk, hb⟩ := (hF x hx).ex
    exact ⟨n + 2, f', fd, ps', F, hr, hgd, hm, hk, hb⟩
  raz := fun _ c cl g h1 h2 => by
    obtain ⟨k, fI, fd, ps', T1, T2, T3, T4, T5, T6, T7⟩ := TO.raz c cl g h1 h2
    exact ⟨k, fI, fd, ps', 1, T1, T2, T3, T4 P w base, hr.mono (by omega), T5, T6, T7⟩
  cla := TO.cla
  exo := fun a d c h => h.elim
  tk := tk
  po := fun _ => passes_of rfl
  tr := fun _ => ⟨rfl, rfl⟩
  nex := fun _ a d c h => h
theorem step_ok {n : Nat} {x : Str} {d : Fn} {st : Stmt} {N ps : List Str} {m k : Nat} {f : Addr} {fd : FuncData} (TO : TopOk T G K mg) (ih : ∀ x, T.fns.contains x = true → FnAt P w K mg base (n + 2) x (fsOf (NV.call G n) x)) (hd : G.fns.lookup x = some d) (F : Fun K x x st f fd) (S : FnScope N ps (defScope st))
    (e1 : d.np = ps.length) (e2 : d.nl = N.length) (hck : ckBl (ckS T G m k (topS N st)) (defBody st) d.body = true) : FnX P w K mg base (n + 3) f fd ps (spOf K mg (fsOf (NV.call G (n + 1)) x)) := by
  have key := fn_ok (P := P) (w := w) (base := base) (mg := mg) (k := n + 2) (body := fun ρ => exB G (NV.call G n) d.body ρ) F S fun cdv A outer s H E B kx hr hgd tk => by
    exact ckBl_ok (fun st' x' q => ckS_ok k _ _ st' x' (body_ok TO S ih hr hgd tk) q) hck
  have e : (fun avs R Rx => W (callB ps.length N.length (fun ρ => exB G (NV.call G n) d.body ρ) avs) R Rx : FS) = fsOf (NV.call G (n + 1)) x := by
    funext avs R Rx
    show _ = W (NV.call G (n + 1) x avs) R Rx
    rw [call_eq hd, e1, e2]
  rw [e] at key
  exact key
theorem all_ok (TO : TopOk T G K mg) (hD : ∀ x d, G.fns.lookup x = some d → DefOk T G K mg x d) (hT : ∀ x, T.fns.contains x = true → (G.fns.lookup x).isSome = true) : ∀ (n : Nat) (x : Str), (G.fns.lookup x).isSome = true → FnAt P w K mg base (n + 2) x (fsOf (NV.call G n) x)
  | 0, x, hx => by
    obtain ⟨d, hd⟩ := Option.isSome_iff_exists.mp hx
    obtain ⟨st, N, ps, m, k, D, S, _⟩ := (hD x d hd).ex
    obtain ⟨f, fd, F, h1, h2⟩ := D.ex
    exact ⟨f, fd, ps, fnX_bad fun avs R Rx h => h, h1, F.kp, h2⟩
  | n + 1, x, hx => by
    obtain ⟨d, hd⟩ := Option.isSome_iff_exists.mp hx
    obtain ⟨st, N, ps, m, k, D, S, e1, e2, hck⟩ := (hD x d hd).ex
    obtain ⟨f, fd, F, h1, h2⟩ := D.ex
    exact ⟨f, fd, ps, step_ok TO (fun x hx => all_ok TO hD hT n x (hT x hx)) hd F S e1 e2 hck, h1, F.kp, h2⟩
theorem law_of {x xs : Str} {n m k : Nat} {st : Stmt} {N : List Str} {d : Fn} (TO : TopOk T G K mg) (hD : ∀ x d, G.fns.lookup x = some d → DefOk T G K mg x d) (hT : ∀ x, T.fns.contains x = true → (G.fns.lookup x).isSome = true) (hd : G.fns.lookup x = some d) (D : Df K mg x st [xs]) (S : FnScope N [xs] (defScope st))
    (e1 : d.np = 1) (e2 : d.nl = N.length) (hck : ckBl (ckS T G m k (topS N st)) (defBody st) d.body = true) :
    ∃ (fa : Addr) (fd : FuncData), mg x = some (.ref fa) ∧ Binds K fd [xs] [] ∧ ∀ base : Heap, K.In base → base.Ns mainGlobals mg → FnX P w K mg base (n + 3) fa fd [xs] (spOf K mg (fsOf (NV.call G (n + 1)) x)) := by
  obtain ⟨f, fd, F, h1, h2⟩ := D.ex
  exact ⟨f, fd, h1, h2, fun base _ _ => step_ok TO (fun x hx => all_ok TO hD hT n x (hT x hx)) hd F S e1 e2 hck⟩
end
end SN
set_option maxHeartbeats 8000000
/-! LW: calls of the text over data -/
namespace LW
open PySem NV
/-- a call, by the def's body -/
theorem W_call {G : Pg} {n : Nat} {f : Str} {np nl : Nat} {body : List S} {avs : List SV} {Q : NV → Rho → Prop} {E : Exc → Rho → Prop} (h : List.lookup f G.fns = some ⟨np, nl, body⟩) (hl : avs.length = np)
    (hw : W (exB G (NV.call G n) body (avs ++ List.replicate (nl - np) .no)) (fun fl ρ => W (retR np (.ok fl ρ)) Q E) (fun x ρ => E x (ρ.take np))) : W (NV.call G (n + 1) f avs) Q E := by
  rw [SN.call_eq h]
  unfold SN.callB
  rw [W_chk]
  refine ⟨decide_eq_true hl, ?_⟩
  show W (match exB G (NV.call G n) body (avs ++ List.replicate (nl - np) .no) with | .exc x ρ => .exc x (ρ.take np) | m => retR np m) Q E
  revert hw
  generalize exB G (NV.call G n) body (avs ++ List.replicate (nl - np) .no) = r
  intro hw
  cases r with
  | ok fl ρ => exact hw
  | exc x ρ => exact hw
  | bad => exact hw
/-- a call among others -/
theorem W_callR {Φ : Calls} {f : Str} {vs : List NV} {ρ : Rho} {Q : NV → Rho → Prop} {E : Exc → Rho → Prop} (R : NV → List SV → Prop) (Rx : Exc → List SV → Prop) (hn : nodupB (alis vs) = true) (ha : (vs.map (avOf ρ)).all isAv = true) (h : W (Φ f (vs.map (avOf ρ))) R Rx)
    (hq : ∀ v fin, R v fin → Q v (wback vs fin ρ)) (he : ∀ x fin, Rx x fin → E x (wback vs fin ρ)) : W (callR Φ f vs ρ) Q E := by
  unfold callR
  rw [W_chk, hn, ha]
  refine ⟨rfl, ?_⟩
  cases hm : Φ f (vs.map (avOf ρ)) with
  | ok v fin => rw [hm] at h; exact hq v fin h
  | exc x fin => rw [hm] at h; exact he x fin h
  | bad => rw [hm] at h; exact h
/-! ### the drawn list -/
def Dr (ds : List PyData) : Prop := ∃ g m c : Int, ds = [.int g, .int m, .int c] ∧ 0 ≤ g ∧ 0 ≤ m ∧ m < 2305843009213693951 ∧ 0 ≤ c
def fnNext : Fn := ⟨2, 4, [.ife (.cmp .Gt (.idx (.loc 0) (.cst (.int 0))) (.cst (.int 0))) [.asg 2 (.bin .Mod (.idx (.loc 0) (.cst (.int 0))) (.loc 1)), .put 0 (.cst (.int 0)) (.bin .FloorDiv (.idx (.loc 0) (.cst (.int 0))) (.loc 1)), .ret (.loc 2)] [], .put 0 (.cst (.int 2)) (.bin .Add (.idx (.loc 0) (.cst (.int 2))) (.cst (.int 1))), .asg 3 (.bin .Mod (.bin .Add (.idx (.loc 0) (.cst (.int 1))) (.bin .Mult (.cst (.int 11400714819323198485)) (.idx (.loc 0) (.cst (.int 2))))) (.cst (.int 18446744073709551557))), .asg 3 (.bin .Mod (.bin .Mult (.loc 3) (.bin .Add (.bin .Mod (.loc 3) (.cst (.int 4294967291))) (.cst (.int 5)))) (.cst (.int 2305843009213693951))), .ret (.bin .Mod (.bin .FloorDiv (.bin .Mod (.bin .Mult (.loc 3) (.loc 3)) (.cst (.int 2305843009213693921))) (.cst (.int 2048))) (.loc 1))]⟩
/-- texts are the same -/
def sq (a b : Str) : Bool := decide (a = b)
theorem sq_self {a : Str} : sq a a = true := decide_eq_true rfl
theorem sq_t {a b : Str} (h : a = b) : sq a b = true := decide_eq_true h
theorem sq_f {a b : Str} (h : a ≠ b) : sq a b = false := decide_eq_false h
theorem eqF_ss {a b : Str} : eqF (.str a) (.str b) = some (sq a b) := rfl
theorem eqF_ii {a b : Int} : eqF (.int a) (.int b) = some (decide (a = b)) := rfl
theorem eqF_bb {a b : Bool} : eqF (.bool a) (.bool b) = some (decide (a = b)) := rfl
theorem eqF_ln {a : List PyData} : eqF (.list a) (.list []) = some a.isEmpty := rfl
theorem eqF_tn {a : List PyData} : eqF (.tuple a) (.tuple []) = some a.isEmpty := rfl
theorem neF_ss {a b : Str} : neF (.str a) (.str b) = some (!sq a b) := rfl
theorem neF_ii {a b : Int} : neF (.int a) (.int b) = some (!decide (a = b)) := rfl
theorem neF_bb {a b : Bool} : neF (.bool a) (.bool b) = some (!decide (a = b)) := rfl
theorem neF_ln {a : List PyData} : neF (.list a) (.list []) = some (!a.isEmpty) := rfl
theorem idxF_t {a : List PyData} {i : Int} : idxF (.tuple a) (.int i) = L2.atI a i := rfl
theorem idxF_l {a : List PyData} {i : Int} : idxF (.list a) (.int i) = L2.atI a i := rfl
theorem cn0 : ((0 : Nat) : Int) = 0 := rfl
theorem cn1 : ((1 : Nat) : Int) = 1 := rfl
theorem cn2 : ((2 : Nat) : Int) = 2 := rfl
theorem cn3 : ((3 : Nat) : Int) = 3 := rfl
theorem cn4 : ((4 : Nat) : Int) = 4 := rfl
theorem cn5 : ((5 : Nat) : Int) = 5 := rfl
theorem cn6 : ((6 : Nat) : Int) = 6 := rfl
theorem cn7 : ((7 : Nat) : Int) = 7 := rfl
theorem cn8 : ((8 : Nat) : Int) = 8 := rfl
theorem cn9 : ((9 : Nat) : Int) = 9 := rfl
theorem cn10 : ((10 : Nat) : Int) = 10 := rfl
theorem atI_nat {α : Type} {l : List α} {i : Nat} {a : α} (h : l[i]? = some a) : L2.atI l (i : Int) = some a := by
  have hi : i < l.length := (List.getElem?_eq_some_iff.mp h).1
  unfold L2.atI L2.ixN
  rw [if_pos (by omega), if_pos (by omega)]
  simpa using h
theorem ixN0 {n : Nat} : L2.ixN (n + 1) 0 = some 0 := by unfold L2.ixN; rw [if_pos (by omega), if_pos (by omega)]; rfl
theorem ixN1 {n : Nat} : L2.ixN (n + 1 + 1) 1 = some 1 := by unfold L2.ixN; rw [if_pos (by omega), if_pos (by omega)]; rfl
theorem ixN2 {n : Nat} : L2.ixN (n + 1 + 1 + 1) 2 = some 2 := by unfold L2.ixN; rw [if_pos (by omega), if_pos (by omega)]; rfl
theorem atI0 {α : Type} {a : α} {l : List α} : L2.atI (a :: l) 0 = some a := atI_nat (i := 0) rfl
theorem atI1 {α : Type} {a b : α} {l : List α} : L2.atI (a :: b :: l) 1 = some b := atI_nat (i := 1) rfl
theorem atI2 {α : Type} {a b c : α} {l : List α} : L2.atI (a :: b :: c :: l) 2 = some c := atI_nat (i := 2) rfl
theorem atI3 {α : Type} {a b c d : α} {l : List α} : L2.atI (a :: b :: c :: d :: l) 3 = some d := atI_nat (i := 3) rfl
local macro_rules | `(tactic| walk_at "ev") => `(tactic| simp (config := { dsimp := false }) only [W_ok, W_exc, W_bad, ↓W_bind, ↓W_seq, seqQ_nx, seqQ_rt, seqQ_bk, seqQ_ct, W_chk, W_grd, W_opi, W_nox, W_cond, bind_ok, bind_exc, bind_bad, nox_ok, nox_bad, rc_t, rc_f, chk_true, chk_false, opt_some, opt_none, seq_nx, seq_rt, seq_bk, seq_ct, seq_exc, evN, evs, eva, evb, evo, evc, evp, exS, exB, esc, sto, stos, stoP, tgs, keepR, fzR, asBool, asOptInt, isiR, isxR, atrR, mthR, isMut, mutOk, mutR, mutF, NV.putF, NV.data, NV.data1, NV.dataS, NV.dataB, NV.dataR, NV.dat?, SV.data, SV.data1, NV.fz, isLstS, isDicS, bopF, copF, sq_self, eqF_ss, eqF_ii, eqF_bb, eqF_ln, eqF_tn, neF_ss, neF_ii, neF_bb, neF_ln, isN, idxF_t, idxF_l, atF, slcF, revF, biF, itF, isBor, items, iterF, avOf, isAv, List.map_cons, List.map_nil, List.all_cons, List.all_nil, List.getElem?_cons_zero, List.getElem?_cons_succ, List.set_cons_zero, List.set_cons_succ, Option.bind_some, Option.map_some, List.any_cons, List.any_nil, DW.isLst, tyIs, DW.isInt, DW.isBool, DW.isStr, DW.isTup, Bool.not_true, Bool.not_false, Bool.or_false, Bool.or_true, Bool.true_or, Bool.false_or, Bool.and_true, Bool.true_and, Bool.and_false, Bool.false_and, true_and, and_true, Tg.slots, mkExc, catches, tryR, retR, List.take_succ_cons, List.take_zero, List.length_cons, List.length_nil, List.append_nil, List.cons_append, List.nil_append, ixN0, ixN1, ixN2, atI0, atI1, atI2, atI3, forall_const, Bool.false_eq_true, false_and, and_false, not_false_eq_true, reduceCtorEq, false_implies, true_implies, eq_self_iff_true, Bool.true_eq_false, Nat.reduceAdd, Nat.zero_add, cn0, cn1, cn2, cn3, cn4, cn5, cn6, cn7, cn8, cn9, cn10, Int.reduceEq, Int.reduceLT, Int.reduceLE, Int.reduceSub, Int.reduceAdd, decide_true, decide_false])

theorem cMul_l {i j : Int} (h0 : 0 ≤ i) (h1 : i < 18446744073709551616) : cMul i j = true := by
  unfold cMul
  rw [Bool.or_eq_true]
  exact .inl (decide_eq_true ⟨by omega, by omega⟩)
theorem cMul_r {i j : Int} (h0 : 0 ≤ j) (h1 : j < 18446744073709551616) : cMul i j = true := by
  unfold cMul
  rw [Bool.or_eq_true]
  exact .inr (decide_eq_true ⟨by omega, by omega⟩)
theorem w_next {G : Pg} {n : Nat} (h : List.lookup ("_law_next" : Str) G.fns = some fnNext) {ds : List PyData} {many : Int} (hd : Dr ds) (h0 : 0 < many) (h1 : many < 1073741824) :
    W (NV.call G (n + 1) "_law_next" [.own true ds, .dat (.int many)]) (fun v fin => ∃ i ds', v = .dat (.int i) ∧ fin = [.own true ds', .dat (.int many)] ∧ Dr ds' ∧ 0 ≤ i ∧ i < many) (fun _ _ => False) := by
  refine W_call (np := 2) (nl := 4) h rfl ?_
  obtain ⟨g, m, c, rfl, hg, hm, hm2, hc⟩ := hd
  show W (exB G (NV.call G n) _ [.own true [.int g, .int m, .int c], .dat (.int many), .no, .no]) _ _
  walk_at "ev"
  refine ⟨fun hg1 => ⟨decide_eq_true h0, decide_eq_true ⟨h0, h1⟩, _, _, rfl, rfl, ⟨_, _, _, rfl, Int.ediv_nonneg hg (by omega), hm, hm2, hc⟩, Int.emod_nonneg _ (by omega), Int.emod_lt_of_pos _ h0⟩, fun _ => ⟨cMul_l (by decide) (by decide), cMul_l (Int.emod_nonneg _ (by decide)) (Int.lt_trans (Int.emod_lt_of_pos _ (by decide)) (by decide)), cMul_l (Int.emod_nonneg _ (by decide)) (Int.lt_trans (Int.emod_lt_of_pos _ (by decide)) (by decide)), decide_eq_true h0, _, _, rfl, rfl, ⟨_, _, _, rfl, hg, hm, hm2, by omega⟩, Int.emod_nonneg _ (by omega), Int.emod_lt_of_pos _ h0⟩⟩
/-- _law_next among others -/
theorem c_next {G : Pg} {n : Nat} (h : List.lookup ("_law_next" : Str) G.fns = some fnNext) {ρ : Rho} {i : Nat} {b : Bool} {ds : List PyData} {many : Int} {Q : NV → Rho → Prop} {E : Exc → Rho → Prop} (hs : ρ[i]? = some (.own b ds)) (hd : Dr ds) (h0 : 0 < many) (h1 : many < 1073741824)
    (k : ∀ v ds', Dr ds' → 0 ≤ v → v < many → Q (.dat (.int v)) (ρ.set i (.own b ds'))) : W (callR (NV.call G (n + 1)) "_law_next" [.ali i, .dat (.int many)] ρ) Q E := by
  have e : ([NV.ali i, NV.dat (.int many)].map (avOf ρ)) = [.own true ds, .dat (.int many)] := by simp [avOf, hs]
  refine W_callR _ (fun _ _ => False) rfl (by rw [e]; rfl) (by rw [e]; exact w_next h hd h0 h1) (fun v fin hR => ?_) fun _ _ z => z.elim
  obtain ⟨j, ds', rfl, rfl, hd', g0, g1⟩ := hR
  have : wback [NV.ali i, NV.dat (.int many)] [.own true ds', .dat (.int many)] ρ = ρ.set i (.own b ds') := by simp [wback, wb1, wb, flag, hs]
  rw [this]
  exact k j ds' hd' g0 g1
/-! ### loops -/
def forQ (I : List PyData → Rho → Prop) (rest : List PyData) (Q : Fl → Rho → Prop) (fl : Fl) (ρ : Rho) (_ : Tag I := .t) (_ : Tag Q := .t) : Prop :=
  match fl with
  | .nx => I rest ρ
  | .ct => I rest ρ
  | .bk => Q .nx ρ
  | .rt v => Q (.rt v) ρ
theorem forQ_nx {I : List PyData → Rho → Prop} {rest : List PyData} {Q : Fl → Rho → Prop} {ρ : Rho} : forQ I rest Q .nx ρ = I rest ρ := rfl
theorem forQ_ct {I : List PyData → Rho → Prop} {rest : List PyData} {Q : Fl → Rho → Prop} {ρ : Rho} : forQ I rest Q .ct ρ = I rest ρ := rfl
theorem forQ_bk {I : List PyData → Rho → Prop} {rest : List PyData} {Q : Fl → Rho → Prop} {ρ : Rho} : forQ I rest Q .bk ρ = Q .nx ρ := rfl
theorem forQ_rt {I : List PyData → Rho → Prop} {rest : List PyData} {Q : Fl → Rho → Prop} {ρ : Rho} {v : NV} : forQ I rest Q (.rt v) ρ = Q (.rt v) ρ := rfl
theorem W_for {t : Tg} {b : Rho → R Fl} {tb : Tag b} {Q : Fl → Rho → Prop} {E : Exc → Rho → Prop} (I : List PyData → Rho → Prop) : ∀ {ds : List PyData} {ρ : Rho}, I ds ρ → (∀ d rest ρ, I (d :: rest) ρ → W (R.bind (tgs t d ρ) fun _ ρ => b ρ) (fun fl ρ => forQ I rest Q fl ρ) E) → (∀ ρ, I [] ρ → Q .nx ρ) → W (forR t b tb ds ρ) Q E
  | [], ρ, h0, _, he => he ρ h0
  | d :: ds, ρ, h0, hs, he => by
    have h := hs d ds ρ h0
    rw [forR]
    rw [W_bind] at h ⊢
    refine W.mono h (fun _ ρ h => ?_) fun _ _ h => h
    rw [W_bind]
    refine W.mono h (fun fl ρ h => ?_) fun _ _ h => h
    cases fl with
    | nx => exact W_for I h hs he
    | ct => exact W_for I h hs he
    | bk => exact h
    | rt v => exact h
def whQ (I : Nat → Rho → Prop) (m : Nat) (Q : Fl → Rho → Prop) (fl : Fl) (ρ : Rho) (_ : Tag I := .t) (_ : Tag Q := .t) : Prop :=
  match fl with
  | .nx => ∃ m', m' < m ∧ I m' ρ
  | .ct => ∃ m', m' < m ∧ I m' ρ
  | .bk => Q .nx ρ
  | .rt v => Q (.rt v) ρ
theorem whQ_nx {I : Nat → Rho → Prop} {m : Nat} {Q : Fl → Rho → Prop} {ρ : Rho} : whQ I m Q .nx ρ = ∃ m', m' < m ∧ I m' ρ := rfl
theorem whQ_ct {I : Nat → Rho → Prop} {m : Nat} {Q : Fl → Rho → Prop} {ρ : Rho} : whQ I m Q .ct ρ = ∃ m', m' < m ∧ I m' ρ := rfl
theorem whQ_bk {I : Nat → Rho → Prop} {m : Nat} {Q : Fl → Rho → Prop} {ρ : Rho} : whQ I m Q .bk ρ = Q .nx ρ := rfl
theorem whQ_rt {I : Nat → Rho → Prop} {m : Nat} {Q : Fl → Rho → Prop} {ρ : Rho} {v : NV} : whQ I m Q (.rt v) ρ = Q (.rt v) ρ := rfl
theorem W_while {c : Rho → R Bool} {b : Rho → R Fl} {tc : Tag c} {tb : Tag b} {Q : Fl → Rho → Prop} {E : Exc → Rho → Prop} (I : Nat → Rho → Prop) (hs : ∀ m ρ, I m ρ → W (c ρ) (fun t ρ => (t = true → W (b ρ) (fun fl ρ => whQ I m Q fl ρ) E) ∧ (t = false → Q .nx ρ)) E) : ∀ {n m : Nat} {ρ : Rho}, m < n → I m ρ → W (whlR c b tc tb n ρ) Q E
  | 0, m, ρ, h, _ => absurd h (Nat.not_lt_zero _)
  | n + 1, m, ρ, hm, h0 => by
    have h := hs m ρ h0
    rw [whlR, W_bind]
    refine W.mono h (fun t ρ h => ?_) fun _ _ h => h
    cases t with
    | false => exact h.2 rfl
    | true =>
      rw [rc_t, W_bind]
      refine W.mono (h.1 rfl) (fun fl ρ h => ?_) fun _ _ h => h
      cases fl with
      | nx => obtain ⟨m', h1, h2⟩ := h; exact W_while I hs (by omega) h2
      | ct => obtain ⟨m', h1, h2⟩ := h; exact W_while I hs (by omega) h2
      | bk => exact h
      | rt v => exact h
/-- the passes of a comprehension -/
theorem W_comp {elt : Rho → R PyData} {c : Rho → R Bool} {t : Tg} {te : Tag elt} {tc : Tag c} {Q : List PyData → Rho → Prop} {E : Exc → Rho → Prop} (I : List PyData → List PyData → Rho → Prop)
    (hs : ∀ d rest acc ρ, I (d :: rest) acc ρ → W (R.bind (tgs t d ρ) fun _ ρ => R.bind (R.nox (c ρ)) fun b ρ => R.cond b (R.bind (R.nox (elt ρ)) fun e ρ => .ok [e] ρ) (.ok [] ρ)) (fun o ρ => I rest (acc ++ o) (unset t.slots ρ)) E) (he : ∀ acc ρ, I [] acc ρ → Q acc ρ) :
    ∀ {ds : List PyData} {acc : List PyData} {ρ : Rho}, I ds acc ρ → W (compL elt c t te tc ds acc ρ) Q E
  | [], acc, ρ, h0 => he acc ρ h0
  | d :: ds, acc, ρ, h0 => by
    have h := hs d ds acc ρ h0
    rw [compL]
    rw [W_bind] at h ⊢
    refine W.mono h (fun _ ρ h => ?_) fun _ _ h => h
    rw [W_bind] at h ⊢
    refine W.mono h (fun b ρ h => ?_) fun _ _ h => h
    cases b with
    | true =>
      rw [rc_t, W_bind] at h ⊢
      refine W.mono h (fun e ρ h => ?_) fun _ _ h => h
      exact W_comp I hs he h
    | false =>
      rw [rc_f] at h ⊢
      have h : I ds (acc ++ []) (unset t.slots ρ) := h
      rw [List.append_nil] at h
      exact W_comp I hs he h
/-- the rest is not looked at meanwhile -/
theorem W_gen {α : Type} {m : R α} {Q : α → Rho → Prop} {E : Exc → Rho → Prop} (h : ∀ Q' : α → Rho → Prop, (∀ a ρ, Q' a ρ = Q a ρ) → W m Q' E) : W m Q E := h Q fun _ _ => rfl
/-- what is wished behind a statement -/
structure Nx (Q' : Fl → Rho → Prop) (k : Rho → Prop) (Q : Fl → Rho → Prop) : Prop where
  nx : ∀ ρ, Q' .nx ρ = k ρ
  rt : ∀ v ρ, Q' (.rt v) ρ = Q (.rt v) ρ
  bk : ∀ ρ, Q' .bk ρ = Q .bk ρ
  ct : ∀ ρ, Q' .ct ρ = Q .ct ρ
theorem W_st {G : Pg} {Φ : Calls} {s : S} {r : List S} {ρ : Rho} {Q : Fl → Rho → Prop} {E : Exc → Rho → Prop} (h : ∀ Q' : Fl → Rho → Prop, Nx Q' (fun ρ => W (exB G Φ r ρ) Q E) Q → W (exS G Φ s ρ) Q' E) : W (exB G Φ (s :: r) ρ) Q E := by
  rw [exB, W_seq]
  exact h _ ⟨fun _ => rfl, fun _ _ => rfl, fun _ => rfl, fun _ => rfl⟩
/-! ### one of some -/
local macro_rules | `(tactic| walk_at "ev") => `(tactic| simp (config := { dsimp := false }) only [W_ok, W_exc, W_bad, ↓W_bind, ↓W_seq, seqQ_nx, seqQ_rt, seqQ_bk, seqQ_ct, W_chk, W_grd, W_opi, W_nox, W_cond, bind_ok, bind_exc, bind_bad, nox_ok, nox_bad, rc_t, rc_f, chk_true, chk_false, opt_some, opt_none, seq_nx, seq_rt, seq_bk, seq_ct, seq_exc, evN, evs, eva, evb, evo, evc, evp, exS, exB, esc, sto, stos, stoP, tgs, keepR, fzR, asBool, asOptInt, isiR, isxR, atrR, mthR, isMut, mutOk, mutR, mutF, NV.putF, NV.data, NV.data1, NV.dataS, NV.dataB, NV.dataR, NV.dat?, SV.data, SV.data1, NV.fz, isLstS, isDicS, bopF, copF, sq_self, eqF_ss, eqF_ii, eqF_bb, eqF_ln, eqF_tn, neF_ss, neF_ii, neF_bb, neF_ln, isN, idxF_t, idxF_l, atF, slcF, revF, biF, itF, isBor, items, iterF, avOf, isAv, List.map_cons, List.map_nil, List.all_cons, List.all_nil, List.getElem?_cons_zero, List.getElem?_cons_succ, List.set_cons_zero, List.set_cons_succ, Option.bind_some, Option.map_some, List.any_cons, List.any_nil, DW.isLst, tyIs, DW.isInt, DW.isBool, DW.isStr, DW.isTup, Bool.not_true, Bool.not_false, Bool.or_false, Bool.or_true, Bool.true_or, Bool.false_or, Bool.and_true, Bool.true_and, Bool.and_false, Bool.false_and, true_and, and_true, Tg.slots, mkExc, catches, tryR, retR, List.take_succ_cons, List.take_zero, List.length_cons, List.length_nil, List.append_nil, List.cons_append, List.nil_append, ixN0, ixN1, ixN2, forQ_nx, forQ_ct, forQ_bk, forQ_rt, whQ_nx, whQ_ct, whQ_bk, whQ_rt, atI0, atI1, atI2, atI3, forall_const, Bool.false_eq_true, false_and, and_false, not_false_eq_true, reduceCtorEq, false_implies, true_implies, eq_self_iff_true, Bool.true_eq_false, Nat.reduceAdd, Nat.zero_add, cn0, cn1, cn2, cn3, cn4, cn5, cn6, cn7, cn8, cn9, cn10, Int.reduceEq, Int.reduceLT, Int.reduceLE, Int.reduceSub, Int.reduceAdd, decide_true, decide_false])
def fnOne : Fn := ⟨2, 2, [.ret (.idx (.loc 1) (.call "_law_next" [true, false] [(.loc 0), (.bi .len [(.loc 1)])]))]⟩
theorem at_some {α : Type} {l : List α} {v : Int} (h0 : 0 ≤ v) (h1 : v < l.length) : ∃ a, L2.atI l v = some a ∧ a ∈ l := by
  obtain ⟨j, rfl⟩ := Int.eq_ofNat_of_zero_le h0
  have hj : j < l.length := by omega
  exact ⟨l[j], atI_nat (List.getElem?_eq_getElem hj), List.getElem_mem hj⟩
theorem w_one {G : Pg} {n : Nat} (h : List.lookup ("_law_next" : Str) G.fns = some fnNext) (h' : List.lookup ("_law_one" : Str) G.fns = some fnOne) {ds xs : List PyData} (hd : Dr ds) (h0 : 0 < xs.length) (h1 : xs.length < 1073741824) :
    W (NV.call G (n + 2) "_law_one" [.own true ds, .dat (.list xs)]) (fun v fin => ∃ d ds', v = .dat d ∧ fin = [.own true ds', .dat (.list xs)] ∧ Dr ds' ∧ d ∈ xs) (fun _ _ => False) := by
  refine W_call (np := 2) (nl := 2) h' rfl ?_
  show W (exB G (NV.call G (n + 1)) _ [.own true ds, .dat (.list xs)]) _ _
  walk_at "ev"
  refine c_next h rfl hd (by omega) (by omega) fun v ds' hd' g0 g1 => ?_
  obtain ⟨a, ha, hm⟩ := at_some g0 g1
  walk_at "ev"
  rw [ha]
  walk_at "ev"
  exact ⟨a, ds', rfl, rfl, hd', hm⟩
theorem c_one {G : Pg} {n : Nat} (h : List.lookup ("_law_next" : Str) G.fns = some fnNext) (h' : List.lookup ("_law_one" : Str) G.fns = some fnOne) {ρ : Rho} {i : Nat} {b : Bool} {ds xs : List PyData} {Q : NV → Rho → Prop} {E : Exc → Rho → Prop} (hs : ρ[i]? = some (.own b ds)) (hd : Dr ds) (h0 : 0 < xs.length) (h1 : xs.length < 1073741824)
    (k : ∀ d ds', Dr ds' → d ∈ xs → Q (.dat d) (ρ.set i (.own b ds'))) : W (callR (NV.call G (n + 2)) "_law_one" [.ali i, .dat (.list xs)] ρ) Q E := by
  have e : ([NV.ali i, NV.dat (.list xs)].map (avOf ρ)) = [.own true ds, .dat (.list xs)] := by simp [avOf, hs]
  refine W_callR _ (fun _ _ => False) rfl (by rw [e]; rfl) (by rw [e]; exact w_one h h' hd h0 h1) (fun v fin hR => ?_) fun _ _ z => z.elim
  obtain ⟨j, ds', rfl, rfl, hd', g0⟩ := hR
  have : wback [NV.ali i, NV.dat (.list xs)] [.own true ds', .dat (.list xs)] ρ = ρ.set i (.own b ds') := by simp [wback, wb1, wb, flag, hs]
  rw [this]
  exact k j ds' hd' g0
/-! ### the draws of a script -/
def fnDraws : Fn := ⟨1, 4, [.par [1, 2] [(.cst (.int 0)), (.bin .Add (.cst (.int 2901)) (.bin .Mult (.cst (.int 31)) (.bi .len [(.loc 0)])))], .for_ (.nm 3) (.slc (.loc 0) none (some (.cst (.int 60)))) [.asg 2 (.bin .Mod (.bin .Add (.bin .Add (.bin .Add (.bin .Mult (.loc 2) (.cst (.int 1000003))) (.bin .Mult (.cst (.int 2)) (.bi .abs [(.loc 3)]))) (.bi .int [(.cmp .Lt (.loc 3) (.cst (.int 0)))])) (.cst (.int 17))) (.cst (.int 2305843009213693951))), .ife (.cmp .GtE (.bi .abs [(.loc 3)]) (.bin .Pow (.cst (.int 10)) (.cst (.int 18)))) [.asg 1 (.bin .Add (.bin .Mult (.loc 1) (.cst (.int 19))) (.bi .abs [(.loc 3)]))] []], .ret (.lst [(.loc 1), (.loc 2), (.cst (.int 0))])]⟩
theorem w_draws {G : Pg} {n : Nat} (h : List.lookup ("_law_draws" : Str) G.fns = some fnDraws) {ns : List Int} (hl : ns.length ≤ 63) :
    W (NV.call G (n + 1) "_law_draws" [.scr ns]) (fun v fin => ∃ ds, v = .lst ds ∧ fin = [.scr ns] ∧ Dr ds) (fun _ _ => False) := by
  refine W_call (np := 1) (nl := 4) h rfl ?_
  show W (exB G (NV.call G n) _ [.scr ns, .no, .no, .no]) _ _
  walk_at "ev"
  rw [List.length_map]
  refine ⟨cMul_l (by decide) (by decide), ?_⟩
  refine W_for (fun rest ρ => ∃ (g m : Int) (s : SV), ρ = [.scr ns, .dat (.int g), .dat (.int m), s] ∧ (s = .no ∨ ∃ d, s = .dat d) ∧ 0 ≤ g ∧ 0 ≤ m ∧ m < 2305843009213693951 ∧ ∀ d ∈ rest, ∃ i, d = .int i) ⟨0, _, .no, rfl, .inl rfl, by decide, by omega, by omega, fun d hd => ?_⟩ (fun d rest ρ hI => ?_) (fun ρ hI => ?_)
  · have hd : d ∈ ns.map PyData.int := by
      unfold DW.cutD at hd
      exact List.mem_of_mem_drop (List.mem_of_mem_take hd)
    obtain ⟨i, _, rfl⟩ := List.mem_map.mp hd
    exact ⟨i, rfl⟩
  · obtain ⟨g, m, s, rfl, hs, hg, hm, hm2, hr⟩ := hI
    obtain ⟨i, rfl⟩ := hr d (List.mem_cons_self ..)
    have hr' : ∀ d ∈ rest, ∃ i, d = PyData.int i := fun d hd => hr d (List.mem_cons_of_mem _ hd)
    have key : ∀ x : Int, 0 ≤ x % 2305843009213693951 ∧ x % 2305843009213693951 < 2305843009213693951 := fun x => ⟨Int.emod_nonneg _ (by decide), Int.emod_lt_of_pos _ (by decide)⟩
    rcases hs with rfl | ⟨d, rfl⟩
    all_goals
      walk_at "ev"
      refine ⟨cMul_l hm (by omega), cMul_l (by decide) (by decide), by decide, fun hb => ⟨cMul_r (by decide) (by decide), _, _, _, rfl, .inr ⟨_, rfl⟩, ?_, (key _).1, (key _).2, hr'⟩, fun hb => ⟨_, _, _, rfl, .inr ⟨_, rfl⟩, hg, (key _).1, (key _).2, hr'⟩⟩
      have : 0 ≤ (if i < 0 then -i else i) := by split <;> omega
      have h19 : 0 ≤ g * 19 := by omega
      omega
  · obtain ⟨g, m, s, rfl, hs, hg, hm, hm2, hr⟩ := hI
    walk_at "ev"
    exact ⟨_, rfl, g, m, 0, rfl, hg, hm, hm2, by decide⟩
end LW
set_option maxHeartbeats 8000000
/-! RP: small data, and what repr makes of them -/
namespace LW
open PySem NV L2 PyProof.Rows
mutual
def rp : PyData → Bool
  | .none => true
  | .bool _ => true
  | .int i => decide ((PyData.shown (.int i)).length ≤ 60) && (PyData.int i).showable
  | .str x => decide ((PyData.shown (.str x)).length ≤ 60) && (PyData.str x).canLay0
  | .list ds => rps ds
  | .tuple ds => rps ds
  | .dict _ => false
def rps : List PyData → Bool
  | [] => true
  | d :: ds => rp d && rps ds
end
mutual
def sz : PyData → Nat
  | .list ds => szs ds + 1
  | .tuple ds => szs ds + 1
  | _ => 1
def szs : List PyData → Nat
  | [] => 0
  | d :: ds => sz d + szs ds
end
theorem tupleText_le (ts : List Str) : (tupleText ts).length ≤ piled ts + 3 := by
  unfold tupleText
  rw [strLen_append, strLen_append]
  have e1 : ((("(" : String) : Str)).length = 1 := rfl
  have e3 : (((if ts.length == 1 then ",)" else ")" : String) : Str)).length ≤ 2 := by split <;> decide
  rw [e1]
  by_cases h : ts = []
  · subst h; have e4 : (Str.join ", " []).length = 0 := rfl; rw [e4]; omega
  · have := join_length_add ts h
    omega
theorem textFrom_le : ∀ (ts : List Str) (k : Nat) (acc : Str), (textFrom k acc ts).length ≤ acc.length + piled ts
  | [], k, acc => Nat.le_add_right _ _
  | t :: ts, k, acc => by
    rw [textFrom, piled_cons]
    refine Nat.le_trans (textFrom_le ts _ _) ?_
    rw [strLen_append, strLen_append]
    have e : (((if k > 0 then ", " else "" : String) : Str)).length ≤ 2 := by split <;> decide
    omega
theorem listText_le (ts : List Str) : (listText ts).length ≤ piled ts + 3 := by
  unfold listText
  rw [strLen_append]
  have e1 : ((("[" : String) : Str)).length = 1 := rfl
  have e3 : ((("]" : String) : Str)).length = 1 := rfl
  have := textFrom_le ts 0 "["
  rw [e3]
  rw [e1] at this
  omega
mutual
theorem shown_le : ∀ d : PyData, rp d = true → d.shown.length + 4 ≤ 64 * sz d
  | .none, _ => by rw [sz]; · decide +kernel
                   · intro ds e; exact nomatch e
                   · intro ds e; exact nomatch e
  | .bool b, _ => by
    rw [sz]
    · cases b <;> decide +kernel
    · intro ds e; exact nomatch e
    · intro ds e; exact nomatch e
  | .int i, h => by
    rw [rp, Bool.and_eq_true] at h
    have := of_decide_eq_true h.1
    rw [sz]
    · omega
    · intro ds e; exact nomatch e
    · intro ds e; exact nomatch e
  | .str x, h => by
    rw [rp, Bool.and_eq_true] at h
    have := of_decide_eq_true h.1
    rw [sz]
    · omega
    · intro ds e; exact nomatch e
    · intro ds e; exact nomatch e
  | .dict kvs, h => nomatch h
  | .list ds, h => by
    rw [sz, PyData.shown]
    rw [rp] at h
    have := showns_le ds h
    have := listText_le (PyData.shownAll ds)
    omega
  | .tuple ds, h => by
    rw [sz, PyData.shown]
    rw [rp] at h
    have := showns_le ds h
    have := tupleText_le (PyData.shownAll ds)
    omega
theorem showns_le : ∀ ds : List PyData, rps ds = true → piled (PyData.shownAll ds) ≤ 64 * szs ds
  | [], _ => Nat.zero_le _
  | d :: ds, h => by
    rw [rps, Bool.and_eq_true] at h
    rw [PyData.shownAll, piled_cons, szs]
    have := shown_le d h.1
    have := showns_le ds h.2
    omega
end
mutual
theorem show_of : ∀ d : PyData, rp d = true → d.showable = true ∧ d.hasDict = false ∧ d.canLay0 = true
  | .none, _ => ⟨rfl, rfl, rfl⟩
  | .bool b, _ => ⟨rfl, rfl, rfl⟩
  | .int i, h => by rw [rp, Bool.and_eq_true] at h; exact ⟨h.2, rfl, rfl⟩
  | .str x, h => by rw [rp, Bool.and_eq_true] at h; exact ⟨rfl, rfl, h.2⟩
  | .dict kvs, h => nomatch h
  | .list ds, h => by
    rw [rp] at h
    obtain ⟨a, b, c⟩ := shows_of ds h
    exact ⟨by rw [PyData.showable]; exact a, by rw [PyData.hasDict]; exact b, by rw [PyData.canLay0]; exact c⟩
  | .tuple ds, h => by
    rw [rp] at h
    obtain ⟨a, b, c⟩ := shows_of ds h
    exact ⟨by rw [PyData.showable]; exact a, by rw [PyData.hasDict]; exact b, by rw [PyData.canLay0]; exact c⟩
theorem shows_of : ∀ ds : List PyData, rps ds = true → PyData.showableAll ds = true ∧ PyData.hasDictAll ds = false ∧ PyData.canLayAll0 ds = true
  | [], _ => ⟨rfl, rfl, rfl⟩
  | d :: ds, h => by
    rw [rps, Bool.and_eq_true] at h
    obtain ⟨a, b, c⟩ := show_of d h.1
    obtain ⟨a', b', c'⟩ := shows_of ds h.2
    exact ⟨by rw [PyData.showableAll, a, a']; rfl, by rw [PyData.hasDictAll, b, b']; rfl, by rw [PyData.canLayAll0, c, c']; rfl⟩
end
/-- what may be shown: its parts are small, it has at most n nodes and m levels -/
structure Sm (n m : Nat) (d : PyData) : Prop where
  r : rp d = true
  s : sz d ≤ n
  d : d.depth ≤ m
theorem Sm.mono {n m n' m' : Nat} {d : PyData} (h : Sm n m d) (h1 : n ≤ n') (h2 : m ≤ m') : Sm n' m' d := ⟨h.r, Nat.le_trans h.s h1, Nat.le_trans h.d h2⟩
theorem Sm.shaped {n m : Nat} {d : PyData} (h : Sm n m d) (hm : m ≤ 64) : SeqAt.shaped d = true := by
  unfold SeqAt.shaped
  rw [(show_of d h.r).2.2, decide_eq_true (Nat.le_trans h.d hm)]
  rfl
theorem Sm.noDict {n m : Nat} {d : PyData} (h : Sm n m d) : notDict d = true := by
  cases d with
  | dict kvs => exact nomatch h.r
  | _ => rfl
theorem Sm.eqOk {n m n' m' : Nat} {d d' : PyData} (h : Sm n m d) (h' : Sm n' m' d') (hm : m ≤ 64) (hm' : m' ≤ 64) : NV.eqOk d d' = true := by
  unfold NV.eqOk
  rw [h.shaped hm, h'.shaped hm', h.noDict, h'.noDict]
  rfl
theorem Sm.repr {n m : Nat} {d : PyData} (h : Sm n m d) (hn : n ≤ 200000) (hm : m ≤ 150) : biF .repr [d] = some (.dat (.str d.shown)) := by
  obtain ⟨a, b, _⟩ := show_of d h.r
  have h1 := shown_le d h.r
  have h2 : d.shown.length ≤ sizeLine := by
    rw [sizeLine_eq]
    have := h.s
    omega
  show grd (d.showable && (!d.hasDict || DW.noList d) && decide (d.shown.length ≤ sizeLine) && decide (d.depth ≤ 150)) (.dat (.str d.shown)) = _
  rw [a, b, decide_eq_true h2, decide_eq_true (Nat.le_trans h.d hm)]
  rfl
theorem rps_iff {ds : List PyData} : rps ds = true ↔ ∀ d ∈ ds, rp d = true := by
  induction ds with
  | nil => exact ⟨(fun _ d h => nomatch h), fun _ => rfl⟩
  | cons d ds ih =>
    rw [rps, Bool.and_eq_true, ih]
    constructor
    · rintro ⟨a, b⟩ x hx
      rcases List.mem_cons.mp hx with rfl | hx
      · exact a
      · exact b x hx
    · exact fun h => ⟨h d (List.mem_cons_self ..), fun x hx => h x (List.mem_cons_of_mem _ hx)⟩
theorem szs_le {n : Nat} {ds : List PyData} (h : ∀ d ∈ ds, sz d ≤ n) : szs ds ≤ n * ds.length := by
  induction ds with
  | nil => exact Nat.zero_le _
  | cons d ds ih =>
    rw [szs, List.length_cons, Nat.mul_succ]
    have := h d (List.mem_cons_self ..)
    have := ih fun x hx => h x (List.mem_cons_of_mem _ hx)
    omega
theorem depthAll_le {m : Nat} {ds : List PyData} (h : ∀ d ∈ ds, d.depth ≤ m) : PyData.depthAll ds ≤ m := by
  induction ds with
  | nil => exact Nat.zero_le _
  | cons d ds ih =>
    rw [PyData.depthAll]
    have := h d (List.mem_cons_self ..)
    have := ih fun x hx => h x (List.mem_cons_of_mem _ hx)
    omega
theorem Sm.tup {n m k : Nat} {ds : List PyData} (h : ∀ d ∈ ds, Sm n m d) (hk : ds.length ≤ k) : Sm (n * k + 1) (m + 1) (.tuple ds) :=
  ⟨by rw [rp]; exact rps_iff.mpr fun d hd => (h d hd).r, by
    rw [sz]
    have := szs_le fun d hd => (h d hd).s
    have := Nat.mul_le_mul_left n hk
    omega, by
    rw [PyData.depth]
    have := depthAll_le fun d hd => (h d hd).d
    omega⟩
theorem Sm.lst {n m k : Nat} {ds : List PyData} (h : ∀ d ∈ ds, Sm n m d) (hk : ds.length ≤ k) : Sm (n * k + 1) (m + 1) (.list ds) :=
  ⟨by rw [rp]; exact rps_iff.mpr fun d hd => (h d hd).r, by
    rw [sz]
    have := szs_le fun d hd => (h d hd).s
    have := Nat.mul_le_mul_left n hk
    omega, by
    rw [PyData.depth]
    have := depthAll_le fun d hd => (h d hd).d
    omega⟩
theorem int_rp {i : Int} (h0 : -5 ≤ i) (h1 : i ≤ 1000) : rp (.int i) = true := by
  have key : ∀ n : Fin 1006, rp (.int ((n.val : Int) - 5)) = true := by decide +kernel
  have := key ⟨(i + 5).toNat, by omega⟩
  have e : (((i + 5).toNat : Int) - 5) = i := by omega
  simpa only [e] using this
theorem Sm.int {i : Int} (h0 : -5 ≤ i) (h1 : i ≤ 1000) : Sm 1 0 (.int i) := ⟨int_rp h0 h1, by rw [sz]; exact Nat.le_refl _; all_goals (intro ds e; exact nomatch e), Nat.le_refl _⟩
end LW
set_option maxHeartbeats 8000000
namespace K18
open PySem NV
def fn_is_number : Fn := ⟨2, 2, [.ret (.and (.isi (.loc 0) [.int]) (.and (.not (.isi (.loc 0) [.bool])) (.chain .LtE .Lt (.cst (.int 0)) (.loc 0) (.loc 1))))]⟩
def fn_is_variable : Fn := ⟨1, 1, [.ret (.isi (.loc 0) [.int])]⟩
def fn_are_alike : Fn := ⟨2, 2, [.ife (.or (.call "is_variable" [false] [(.loc 0)]) (.call "is_variable" [false] [(.loc 1)])) [.ret (.cst (.bool false))] [], .ret (.and (.cmp .Eq (.idx (.loc 0) (.cst (.int 0))) (.idx (.loc 1) (.cst (.int 0)))) (.cmp .Eq (.bi .len [(.loc 0)]) (.bi .len [(.loc 1)])))]⟩
def fn_given_by : Fn := ⟨2, 2, [.ife (.or (.cmp .NotEq (.bi .len [(.loc 1)]) (.cst (.int 3))) (.or (.not (.call "is_number" [false, false] [(.idx (.loc 1) (.cst (.int 1))), (.bi .len [(.loc 0)])])) (.not (.call "is_number" [false, false] [(.idx (.loc 1) (.cst (.int 2))), (.bi .len [(.idx (.loc 0) (.idx (.loc 1) (.cst (.int 1))))])])))) [.ret (.cst .none)] [], .ret (.idx (.idx (.loc 0) (.idx (.loc 1) (.cst (.int 1)))) (.idx (.loc 1) (.cst (.int 2))))]⟩
def fn_shown_by : Fn := ⟨3, 5, [.ife (.or (.not (.isi (.loc 2) [.tuple])) (.or (.cmp .NotIn (.bi .len [(.loc 2)]) (.tup [(.cst (.int 2)), (.cst (.int 3))])) (.not (.isi (.idx (.loc 2) (.cst (.int 0))) [.str])))) [.ret (.cst .none)] [], .ife (.cmp .Eq (.idx (.loc 2) (.cst (.int 0))) (.cst (.str "given"))) [.ret (.call "given_by" [false, false] [(.loc 0), (.loc 2)])] [], .ife (.not (.call "is_number" [false, false] [(.idx (.loc 2) (.cst (.int 1))), (.bi .len [(.loc 1)])])) [.ret (.cst .none)] [], .unp [3, 4] (.idx (.loc 1) (.idx (.loc 2) (.cst (.int 1)))), .ife (.cmp .Eq (.idx (.loc 2) (.cst (.int 0))) (.cst (.str "turned"))) [.ret (.ite (.cmp .Eq (.bi .len [(.loc 2)]) (.cst (.int 2))) (.tup [(.loc 4), (.loc 3)]) (.cst .none))] [], .ife (.cmp .NotEq (.bi .len [(.loc 2)]) (.cst (.int 3))) [.ret (.cst .none)] [], .ife (.cmp .Eq (.idx (.loc 2) (.cst (.int 0))) (.cst (.str "joined"))) [.ret (.call "joined" [true, false, false] [(.loc 1), (.tup [(.loc 3), (.loc 4)]), (.idx (.loc 2) (.cst (.int 2)))])] [], .ife (.or (.cmp .NotEq (.idx (.loc 2) (.cst (.int 0))) (.cst (.str "part"))) (.or (.not (.call "are_alike" [false, false] [(.loc 3), (.loc 4)])) (.not (.call "is_number" [false, false] [(.idx (.loc 2) (.cst (.int 2))), (.bin .Sub (.bi .len [(.loc 3)]) (.cst (.int 1)))])))) [.ret (.cst .none)] [], .ret (.tup [(.idx (.loc 3) (.bin .Add (.idx (.loc 2) (.cst (.int 2))) (.cst (.int 1)))), (.idx (.loc 4) (.bin .Add (.idx (.loc 2) (.cst (.int 2))) (.cst (.int 1))))])]⟩
def fn_joined : Fn := ⟨3, 3, [.ife (.or (.not (.call "is_number" [false, false] [(.loc 2), (.bi .len [(.loc 0)])])) (.cmp .NotEq (.idx (.idx (.loc 0) (.loc 2)) (.cst (.int 0))) (.idx (.loc 1) (.cst (.int 1))))) [.ret (.cst .none)] [], .ret (.tup [(.idx (.loc 1) (.cst (.int 0))), (.idx (.idx (.loc 0) (.loc 2)) (.cst (.int 1)))])]⟩
def fn_chain_shows : Fn := ⟨2, 6, [.ife (.not (.isi (.loc 1) [.tuple])) [.raise "BadChain" [(.cst .none)]] [], .asg 2 (.lst []), .for_ (.tup [3, 4]) (.it .enum [(.loc 1)]) [.asg 5 (.call "shown_by" [false, true, false] [(.loc 0), (.loc 2), (.loc 4)]), .ife (.cmp .Is (.loc 5) (.cst .none)) [.raise "BadChain" [(.loc 3)]] [], .expr (.mth (.loc 2) .append [(.loc 5)])], .ret (.bi .tuple [(.loc 2)])]⟩
def fn_L_draws : Fn := ⟨1, 4, [.par [1, 2] [(.cst (.int 0)), (.bin .Add (.cst (.int 2901)) (.bin .Mult (.cst (.int 31)) (.bi .len [(.loc 0)])))], .for_ (.nm 3) (.slc (.loc 0) none (some (.cst (.int 60)))) [.asg 2 (.bin .Mod (.bin .Add (.bin .Add (.bin .Add (.bin .Mult (.loc 2) (.cst (.int 1000003))) (.bin .Mult (.cst (.int 2)) (.bi .abs [(.loc 3)]))) (.bi .int [(.cmp .Lt (.loc 3) (.cst (.int 0)))])) (.cst (.int 17))) (.cst (.int 2305843009213693951))), .ife (.cmp .GtE (.bi .abs [(.loc 3)]) (.bin .Pow (.cst (.int 10)) (.cst (.int 18)))) [.asg 1 (.bin .Add (.bin .Mult (.loc 1) (.cst (.int 19))) (.bi .abs [(.loc 3)]))] []], .ret (.lst [(.loc 1), (.loc 2), (.cst (.int 0))])]⟩
def fn_L_next : Fn := ⟨2, 4, [.ife (.cmp .Gt (.idx (.loc 0) (.cst (.int 0))) (.cst (.int 0))) [.asg 2 (.bin .Mod (.idx (.loc 0) (.cst (.int 0))) (.loc 1)), .put 0 (.cst (.int 0)) (.bin .FloorDiv (.idx (.loc 0) (.cst (.int 0))) (.loc 1)), .ret (.loc 2)] [], .put 0 (.cst (.int 2)) (.bin .Add (.idx (.loc 0) (.cst (.int 2))) (.cst (.int 1))), .asg 3 (.bin .Mod (.bin .Add (.idx (.loc 0) (.cst (.int 1))) (.bin .Mult (.cst (.int 11400714819323198485)) (.idx (.loc 0) (.cst (.int 2))))) (.cst (.int 18446744073709551557))), .asg 3 (.bin .Mod (.bin .Mult (.loc 3) (.bin .Add (.bin .Mod (.loc 3) (.cst (.int 4294967291))) (.cst (.int 5)))) (.cst (.int 2305843009213693951))), .ret (.bin .Mod (.bin .FloorDiv (.bin .Mod (.bin .Mult (.loc 3) (.loc 3)) (.cst (.int 2305843009213693921))) (.cst (.int 2048))) (.loc 1))]⟩
def fn_L_one : Fn := ⟨2, 2, [.ret (.idx (.loc 1) (.call "_law_next" [true, false] [(.loc 0), (.bi .len [(.loc 1)])]))]⟩
def fn_L_shapes : Fn := ⟨3, 7, [.asg 3 (.call "_law_next" [true, false] [(.loc 0), (.cst (.int 9))]), .ife (.or (.cmp .Eq (.loc 2) (.cst (.int 0))) (.cmp .Lt (.loc 3) (.cst (.int 3)))) [.ret (.idx (.lst [(.call "_law_next" [true, false] [(.loc 0), (.loc 1)]), (.call "_law_next" [true, false] [(.loc 0), (.loc 1)]), (.tup [(.cst (.str "A"))]), (.tup [(.cst (.str "B"))])]) (.call "_law_next" [true, false] [(.loc 0), (.cst (.int 4))]))] [], .unp [4, 5] (.idx (.lst [(.tup [(.cst (.str "W")), (.cst (.int 1))]), (.tup [(.cst (.str "P")), (.cst (.int 2))]), (.tup [(.cst (.str "->")), (.cst (.int 2))]), (.tup [(.cst (.str "P")), (.cst (.int 2))]), (.tup [(.cst (.str "P")), (.cst (.int 3))]), (.tup [(.cst (.str "A")), (.cst (.int 1))])]) (.bin .Sub (.loc 3) (.cst (.int 3)))), .ret (.bin .Add (.tup [(.loc 4)]) (.bi .tuple [(.comp (.call "_law_shapes" [true, false, false] [(.loc 0), (.loc 1), (.bin .Sub (.loc 2) (.cst (.int 1)))]) (.nm 6) (.it .range [(.loc 5)]) none)]))]⟩
def fn_L_groups : Fn := ⟨3, 7, [.asg 3 (.lst []), .for_ (.nm 4) (.it .range [(.loc 2)]) [.asg 5 (.idx (.lst [(.cst (.int 1)), (.cst (.int 1)), (.cst (.int 1)), (.cst (.int 2)), (.cst (.int 0)), (.cst (.int 3))]) (.call "_law_next" [true, false] [(.loc 0), (.cst (.int 6))])), .expr (.mth (.loc 3) .append [(.bi .tuple [(.comp (.call "_law_sides" [true, false] [(.loc 0), (.loc 1)]) (.nm 6) (.it .range [(.loc 5)]) none)])])], .ret (.bi .tuple [(.loc 3)])]⟩
def fn_L_number : Fn := ⟨2, 2, [.ret (.and (.isi (.loc 0) [.int]) (.and (.not (.isi (.loc 0) [.bool])) (.chain .LtE .Lt (.cst (.int 0)) (.loc 0) (.loc 1))))]⟩
def fn_L_tuples : Fn := ⟨2, 2, [.ife (.or (.isi (.loc 0) [.int]) (.isi (.loc 1) [.int])) [.ret (.cst (.bool false))] [], .ret (.and (.cmp .Eq (.idx (.loc 0) (.cst (.int 0))) (.idx (.loc 1) (.cst (.int 0)))) (.cmp .Eq (.bi .len [(.loc 0)]) (.bi .len [(.loc 1)])))]⟩
def fn_L_two : Fn := ⟨2, 4, [.unp [2, 3] (.idx (.loc 0) (.idx (.loc 1) (.cst (.int 1)))), .ife (.cmp .Eq (.bi .len [(.loc 1)]) (.cst (.int 2))) [.ret (.ite (.cmp .Eq (.idx (.loc 1) (.cst (.int 0))) (.cst (.str "turned"))) (.tup [(.loc 3), (.loc 2)]) (.cst .none))] [], .ife (.and (.cmp .Eq (.idx (.loc 1) (.cst (.int 0))) (.cst (.str "joined"))) (.and (.call "_law_number" [false, false] [(.idx (.loc 1) (.cst (.int 2))), (.bi .len [(.loc 0)])]) (.cmp .Eq (.idx (.idx (.loc 0) (.idx (.loc 1) (.cst (.int 2)))) (.cst (.int 0))) (.loc 3)))) [.ret (.tup [(.loc 2), (.idx (.idx (.loc 0) (.idx (.loc 1) (.cst (.int 2)))) (.cst (.int 1)))])] [], .ife (.and (.cmp .Eq (.idx (.loc 1) (.cst (.int 0))) (.cst (.str "part"))) (.and (.call "_law_tuples" [false, false] [(.loc 2), (.loc 3)]) (.call "_law_number" [false, false] [(.idx (.loc 1) (.cst (.int 2))), (.bin .Sub (.bi .len [(.loc 2)]) (.cst (.int 1)))]))) [.ret (.tup [(.idx (.loc 2) (.bin .Add (.cst (.int 1)) (.idx (.loc 1) (.cst (.int 2))))), (.idx (.loc 3) (.bin .Add (.cst (.int 1)) (.idx (.loc 1) (.cst (.int 2)))))])] [], .ret (.cst .none)]⟩
def fn_L_shown : Fn := ⟨3, 3, [.ife (.or (.not (.isi (.loc 2) [.tuple])) (.or (.cmp .NotIn (.bi .len [(.loc 2)]) (.tup [(.cst (.int 2)), (.cst (.int 3))])) (.not (.isi (.idx (.loc 2) (.cst (.int 0))) [.str])))) [.ret (.cst .none)] [], .ife (.cmp .Eq (.idx (.loc 2) (.cst (.int 0))) (.cst (.str "given"))) [.ife (.and (.cmp .Eq (.bi .len [(.loc 2)]) (.cst (.int 3))) (.and (.call "_law_number" [false, false] [(.idx (.loc 2) (.cst (.int 1))), (.bi .len [(.loc 0)])]) (.call "_law_number" [false, false] [(.idx (.loc 2) (.cst (.int 2))), (.bi .len [(.idx (.loc 0) (.idx (.loc 2) (.cst (.int 1))))])]))) [.ret (.idx (.idx (.loc 0) (.idx (.loc 2) (.cst (.int 1)))) (.idx (.loc 2) (.cst (.int 2))))] [], .ret (.cst .none)] [], .ret (.ite (.call "_law_number" [false, false] [(.idx (.loc 2) (.cst (.int 1))), (.bi .len [(.loc 1)])]) (.call "_law_two" [true, false] [(.loc 1), (.loc 2)]) (.cst .none))]⟩
def fn_L_sides : Fn := ⟨2, 5, [.par [2, 3] [(.call "_law_shapes" [true, false, false] [(.loc 0), (.loc 1), (.cst (.int 2))]), (.call "_law_next" [true, false] [(.loc 0), (.cst (.int 5))])], .ife (.cmp .Eq (.loc 3) (.cst (.int 4))) [.ret (.tup [(.call "_law_shapes" [true, false, false] [(.loc 0), (.loc 1), (.cst (.int 2))]), (.loc 2)])] [], .asg 4 (.call "_law_next" [true, false] [(.loc 0), (.loc 1)]), .ret (.ite (.cmp .Eq (.loc 3) (.cst (.int 3))) (.tup [(.loc 2), (.loc 4)]) (.tup [(.loc 4), (.loc 2)]))]⟩
def fn_L_due : Fn := ⟨2, 6, [.ife (.not (.isi (.loc 1) [.tuple])) [.ret (.lst [(.cst .none)])] [], .asg 2 (.lst []), .for_ (.tup [3, 4]) (.it .enum [(.loc 1)]) [.asg 5 (.call "_law_shown" [false, true, false] [(.loc 0), (.loc 2), (.loc 4)]), .ife (.cmp .Is (.loc 5) (.cst .none)) [.ret (.lst [(.loc 3)])] [], .expr (.mth (.loc 2) .append [(.loc 5)])], .ret (.bi .tuple [(.loc 2)])]⟩
def fn_L_told : Fn := ⟨2, 3, [.try_ [.ret (.call "chain_shows" [false, false] [(.loc 0), (.loc 1)])] "LangError" (some 2) [.ret (.ite (.and (.isx 2 ["BadChain"]) (.not (.isx 2 ["NoSolution"]))) (.lst [(.atr 2 "index")]) (.lst [(.cst (.str "other"))]))]]⟩
def fn_L_tried : Fn := ⟨3, 8, [.par [3, 4, 5] [(.call "_law_next" [true, false] [(.loc 0), (.bi .len [(.loc 1)])]), (.call "_law_next" [true, false] [(.loc 0), (.bin .Add (.loc 2) (.cst (.int 1)))]), (.call "_law_next" [true, false] [(.loc 0), (.bin .Add (.loc 2) (.cst (.int 1)))])], .asg 6 (.call "_law_next" [true, false] [(.loc 0), (.bin .Add (.bi .len [(.idx (.loc 1) (.loc 3))]) (.cst (.int 1)))]), .asg 7 (.lst [(.tup [(.cst (.str "given")), (.loc 3), (.loc 6)]), (.tup [(.cst (.str "given")), (.loc 3), (.loc 6)]), (.tup [(.cst (.str "turned")), (.loc 4)]), (.tup [(.cst (.str "joined")), (.loc 4), (.loc 5)])]), .ret (.call "_law_one" [true, false] [(.loc 0), (.bin .Add (.loc 7) (.lst [(.tup [(.cst (.str "joined")), (.loc 5), (.loc 4)]), (.tup [(.cst (.str "part")), (.loc 4), (.call "_law_next" [true, false] [(.loc 0), (.cst (.int 3))])])]))])]⟩
def fn_L_chain : Fn := ⟨2, 7, [.par [2, 3] [(.tup []), (.lst [])], .for_ (.nm 4) (.it .range [(.cst (.int 60))]) [.asg 5 (.call "_law_tried" [true, false, false] [(.loc 0), (.loc 1), (.bi .len [(.loc 3)])]), .asg 6 (.call "_law_shown" [false, true, false] [(.loc 1), (.loc 3), (.loc 5)]), .ife (.and (.cmp .IsNot (.loc 6) (.cst .none)) (.cmp .Lt (.bi .len [(.loc 2)]) (.cst (.int 18)))) [.par [2, 3] [(.bin .Add (.loc 2) (.tup [(.loc 5)])), (.bin .Add (.loc 3) (.lst [(.loc 6)]))]] []], .ret (.loc 2)]⟩
def fn_L_spoilt : Fn := ⟨3, 7, [.asg 3 (.call "_law_next" [true, false] [(.loc 0), (.bin .Add (.bi .len [(.loc 2)]) (.cst (.int 1)))]), .asg 4 (.call "_law_one" [true, false] [(.loc 0), (.lst [(.cst .none), (.tup []), (.tup [(.cst (.str "turned")), (.neg (.cst (.int 1)))]), (.tup [(.cst (.str "turned")), (.cst (.bool true))]), (.tup [(.cst (.str "given")), (.cst (.int 0))]), (.lst [(.cst (.str "turned")), (.cst (.int 0))]), (.tup [(.cst (.str "given")), (.cst (.int 0)), (.neg (.cst (.int 1)))]), (.cst (.int 0))])]), .asg 5 (.call "_law_one" [true, false] [(.loc 0), (.lst [(.tup [(.cst (.str "joined")), (.neg (.cst (.int 1))), (.cst (.int 0))]), (.tup [(.cst (.str "part")), (.cst (.int 0)), (.neg (.cst (.int 1)))]), (.tup [(.cst (.str "turned")), (.loc 3)]), (.tup [(.lst []), (.cst (.int 0))]), (.tup [(.cst (.str "put")), (.cst (.int 0)), (.cst (.int 0))]), (.tup [(.cst (.str "turned")), (.cst (.int 0)), (.cst (.int 0))])])]), .asg 6 (.call "_law_one" [true, false] [(.loc 0), (.lst [(.loc 4), (.loc 5), (.call "_law_tried" [true, false, false] [(.loc 0), (.loc 1), (.bi .len [(.loc 2)])]), (.tup [(.cst (.str "joined")), (.cst (.int 0)), (.cst (.int 0))]), (.tup [(.cst (.str "part")), (.cst (.int 0)), (.cst (.int 0))])])]), .ret (.bin .Add (.bin .Add (.slc (.loc 2) none (some (.loc 3))) (.tup [(.loc 6)])) (.slc (.loc 2) (some (.bin .Add (.loc 3) (.call "_law_next" [true, false] [(.loc 0), (.cst (.int 2))]))) none))]⟩
def fn_law : Fn := ⟨1, 11, [.asg 1 (.call "_law_draws" [true] [(.loc 0)]), .for_ (.nm 2) (.it .range [(.cst (.int 4))]) [.asg 3 (.call "_law_groups" [true, false, false] [(.loc 1), (.bin .Add (.cst (.int 2)) (.call "_law_next" [true, false] [(.loc 1), (.cst (.int 4))])), (.bin .Add (.cst (.int 2)) (.call "_law_next" [true, false] [(.loc 1), (.cst (.int 5))]))]), .asg 4 (.call "_law_chain" [true, false] [(.loc 1), (.loc 3)]), .asg 5 (.lst [(.loc 4), (.call "_law_spoilt" [true, false, false] [(.loc 1), (.loc 3), (.loc 4)]), (.bi .list [(.loc 4)]), (.cst .none), (.tup []), (.tup [(.loc 4)])]), .asg 5 (.bin .Add (.loc 5) (.comp (.call "_law_spoilt" [true, false, false] [(.loc 1), (.loc 3), (.loc 4)]) (.nm 6) (.it .range [(.cst (.int 6))]) none)), .expr (.mth (.loc 5) .append [(.call "_law_spoilt" [true, false, false] [(.loc 1), (.loc 3), (.idx (.loc 5) (.cst (.int 1)))])]), .for_ (.nm 7) (.loc 5) [.par [8, 9] [(.bi .repr [(.lst [(.loc 3), (.loc 7)])]), (.call "_law_due" [false, false] [(.loc 3), (.loc 7)])], .asg 10 (.call "_law_told" [false, false] [(.loc 3), (.loc 7)]), .ife (.or (.cmp .NotEq (.bi .repr [(.loc 10)]) (.bi .repr [(.loc 9)])) (.or (.cmp .NotEq (.bi .repr [(.call "_law_told" [false, false] [(.loc 3), (.loc 7)])]) (.bi .repr [(.loc 10)])) (.cmp .NotEq (.bi .repr [(.lst [(.loc 3), (.loc 7)])]) (.loc 8)))) [.ret (.cst (.bool false))] []]], .ret (.cst (.bool true))]⟩
def clss : List (Str × Cls) := [("LangError", ⟨[], ["LangError"]⟩), ("NoSolution", ⟨[], ["NoSolution", "LangError"]⟩), ("BadChain", ⟨["index"], ["BadChain", "LangError"]⟩)]
def pg : Pg := ⟨[("is_number", fn_is_number), ("is_variable", fn_is_variable), ("are_alike", fn_are_alike), ("given_by", fn_given_by), ("shown_by", fn_shown_by), ("joined", fn_joined), ("chain_shows", fn_chain_shows), ("_law_draws", fn_L_draws), ("_law_next", fn_L_next), ("_law_one", fn_L_one), ("_law_shapes", fn_L_shapes), ("_law_groups", fn_L_groups), ("_law_number", fn_L_number), ("_law_tuples", fn_L_tuples), ("_law_two", fn_L_two), ("_law_shown", fn_L_shown), ("_law_sides", fn_L_sides), ("_law_due", fn_L_due), ("_law_told", fn_L_told), ("_law_tried", fn_L_tried), ("_law_chain", fn_L_chain), ("_law_spoilt", fn_L_spoilt), ("law", fn_law)], [], clss⟩
theorem lk_is_number : List.lookup ("is_number" : Str) pg.fns = some fn_is_number := by rfl
theorem lk_is_variable : List.lookup ("is_variable" : Str) pg.fns = some fn_is_variable := by rfl
theorem lk_are_alike : List.lookup ("are_alike" : Str) pg.fns = some fn_are_alike := by rfl
theorem lk_given_by : List.lookup ("given_by" : Str) pg.fns = some fn_given_by := by rfl
theorem lk_shown_by : List.lookup ("shown_by" : Str) pg.fns = some fn_shown_by := by rfl
theorem lk_joined : List.lookup ("joined" : Str) pg.fns = some fn_joined := by rfl
theorem lk_chain_shows : List.lookup ("chain_shows" : Str) pg.fns = some fn_chain_shows := by rfl
theorem lk_L_draws : List.lookup ("_law_draws" : Str) pg.fns = some fn_L_draws := by rfl
theorem lk_L_next : List.lookup ("_law_next" : Str) pg.fns = some fn_L_next := by rfl
theorem lk_L_one : List.lookup ("_law_one" : Str) pg.fns = some fn_L_one := by rfl
theorem lk_L_shapes : List.lookup ("_law_shapes" : Str) pg.fns = some fn_L_shapes := by rfl
theorem lk_L_groups : List.lookup ("_law_groups" : Str) pg.fns = some fn_L_groups := by rfl
theorem lk_L_number : List.lookup ("_law_number" : Str) pg.fns = some fn_L_number := by rfl
theorem lk_L_tuples : List.lookup ("_law_tuples" : Str) pg.fns = some fn_L_tuples := by rfl
theorem lk_L_two : List.lookup ("_law_two" : Str) pg.fns = some fn_L_two := by rfl
theorem lk_L_shown : List.lookup ("_law_shown" : Str) pg.fns = some fn_L_shown := by rfl
theorem lk_L_sides : List.lookup ("_law_sides" : Str) pg.fns = some fn_L_sides := by rfl
theorem lk_L_due : List.lookup ("_law_due" : Str) pg.fns = some fn_L_due := by rfl
theorem lk_L_told : List.lookup ("_law_told" : Str) pg.fns = some fn_L_told := by rfl
theorem lk_L_tried : List.lookup ("_law_tried" : Str) pg.fns = some fn_L_tried := by rfl
theorem lk_L_chain : List.lookup ("_law_chain" : Str) pg.fns = some fn_L_chain := by rfl
theorem lk_L_spoilt : List.lookup ("_law_spoilt" : Str) pg.fns = some fn_L_spoilt := by rfl
theorem lk_law : List.lookup ("law" : Str) pg.fns = some fn_law := by rfl
end K18
set_option maxHeartbeats 8000000
namespace K18
open PySem L2 NV SN
open DW (Df)
def tp : Top := ⟨[("GIVEN", (.str "given")), ("TURNED", (.str "turned")), ("JOINED", (.str "joined")), ("PART", (.str "part"))], ["is_number", "is_variable", "are_alike", "given_by", "shown_by", "joined", "chain_shows", "_law_draws", "_law_next", "_law_one", "_law_shapes", "_law_groups", "_law_number", "_law_tuples", "_law_two", "_law_shown", "_law_sides", "_law_due", "_law_told", "_law_tried", "_law_chain", "_law_spoilt", "law"], ["abs", "bool", "enumerate", "int", "isinstance", "len", "list", "range", "repr", "str", "tuple"]⟩
def top (i : Nat) : Stmt := PySem.Challenge.pw_shapelang_k18_chains.main.body.getD i (.Pass ⟨0, 0, 0, 0⟩)
def inner (i j : Nat) : Stmt := match top i with | .ClassDef _ _ _ b _ _ _ _ _ _ _ => b.getD j (.Pass ⟨0, 0, 0, 0⟩) | s => s
abbrev s_is_number : Stmt := top 9
abbrev n_is_number : List Str := ["value", "many"]
theorem sc_is_number : FnScope n_is_number ["value", "many"] (defScope s_is_number) := ⟨rfl, rfl, rfl, by decide +kernel, rfl, by decide +kernel, by decide +kernel⟩
theorem ck_is_number : ckBl (ckS tp pg 60 60 (topS n_is_number s_is_number)) (defBody s_is_number) fn_is_number.body = true := by decide +kernel
abbrev s_is_variable : Stmt := top 10
abbrev n_is_variable : List Str := ["shape"]
theorem sc_is_variable : FnScope n_is_variable ["shape"] (defScope s_is_variable) := ⟨rfl, rfl, rfl, by decide +kernel, rfl, by decide +kernel, by decide +kernel⟩
theorem ck_is_variable : ckBl (ckS tp pg 60 60 (topS n_is_variable s_is_variable)) (defBody s_is_variable) fn_is_variable.body = true := by decide +kernel
abbrev s_are_alike : Stmt := top 11
abbrev n_are_alike : List Str := ["one", "other"]
theorem sc_are_alike : FnScope n_are_alike ["one", "other"] (defScope s_are_alike) := ⟨rfl, rfl, rfl, by decide +kernel, rfl, by decide +kernel, by decide +kernel⟩
theorem ck_are_alike : ckBl (ckS tp pg 60 60 (topS n_are_alike s_are_alike)) (defBody s_are_alike) fn_are_alike.body = true := by decide +kernel
abbrev s_given_by : Stmt := top 12
abbrev n_given_by : List Str := ["groups", "row"]
theorem sc_given_by : FnScope n_given_by ["groups", "row"] (defScope s_given_by) := ⟨rfl, rfl, rfl, by decide +kernel, rfl, by decide +kernel, by decide +kernel⟩
theorem ck_given_by : ckBl (ckS tp pg 60 60 (topS n_given_by s_given_by)) (defBody s_given_by) fn_given_by.body = true := by decide +kernel
abbrev s_shown_by : Stmt := top 13
abbrev n_shown_by : List Str := ["groups", "known", "row", "one", "other"]
theorem sc_shown_by : FnScope n_shown_by ["groups", "known", "row"] (defScope s_shown_by) := ⟨rfl, rfl, rfl, by decide +kernel, rfl, by decide +kernel, by decide +kernel⟩
theorem ck_shown_by : ckBl (ckS tp pg 60 60 (topS n_shown_by s_shown_by)) (defBody s_shown_by) fn_shown_by.body = true := by decide +kernel
abbrev s_joined : Stmt := top 14
abbrev n_joined : List Str := ["known", "equation", "number"]
theorem sc_joined : FnScope n_joined ["known", "equation", "number"] (defScope s_joined) := ⟨rfl, rfl, rfl, by decide +kernel, rfl, by decide +kernel, by decide +kernel⟩
theorem ck_joined : ckBl (ckS tp pg 60 60 (topS n_joined s_joined)) (defBody s_joined) fn_joined.body = true := by decide +kernel
abbrev s_chain_shows : Stmt := top 15
abbrev n_chain_shows : List Str := ["groups", "value", "known", "index", "row", "equation"]
theorem sc_chain_shows : FnScope n_chain_shows ["groups", "value"] (defScope s_chain_shows) := ⟨rfl, rfl, rfl, by decide +kernel, rfl, by decide +kernel, by decide +kernel⟩
theorem ck_chain_shows : ckBl (ckS tp pg 60 60 (topS n_chain_shows s_chain_shows)) (defBody s_chain_shows) fn_chain_shows.body = true := by decide +kernel
abbrev s_L_draws : Stmt := top 17
abbrev n_L_draws : List Str := ["_law_script", "_law_great", "_law_mixed", "_law_cell"]
theorem sc_L_draws : FnScope n_L_draws ["_law_script"] (defScope s_L_draws) := ⟨rfl, rfl, rfl, by decide +kernel, rfl, by decide +kernel, by decide +kernel⟩
theorem ck_L_draws : ckBl (ckS tp pg 60 60 (topS n_L_draws s_L_draws)) (defBody s_L_draws) fn_L_draws.body = true := by decide +kernel
abbrev s_L_next : Stmt := top 18
abbrev n_L_next : List Str := ["_law_drawn", "_law_many", "_law_digit", "_law_mixed"]
theorem sc_L_next : FnScope n_L_next ["_law_drawn", "_law_many"] (defScope s_L_next) := ⟨rfl, rfl, rfl, by decide +kernel, rfl, by decide +kernel, by decide +kernel⟩
theorem ck_L_next : ckBl (ckS tp pg 60 60 (topS n_L_next s_L_next)) (defBody s_L_next) fn_L_next.body = true := by decide +kernel
abbrev s_L_one : Stmt := top 19
abbrev n_L_one : List Str := ["_law_drawn", "_law_items"]
theorem sc_L_one : FnScope n_L_one ["_law_drawn", "_law_items"] (defScope s_L_one) := ⟨rfl, rfl, rfl, by decide +kernel, rfl, by decide +kernel, by decide +kernel⟩
theorem ck_L_one : ckBl (ckS tp pg 60 60 (topS n_L_one s_L_one)) (defBody s_L_one) fn_L_one.body = true := by decide +kernel
abbrev s_L_shapes : Stmt := top 20
abbrev n_L_shapes : List Str := ["_law_drawn", "_law_many", "_law_deep", "_law_way", "_law_name", "_law_count", "_law_k"]
theorem sc_L_shapes : FnScope n_L_shapes ["_law_drawn", "_law_many", "_law_deep"] (defScope s_L_shapes) := ⟨rfl, rfl, rfl, by decide +kernel, rfl, by decide +kernel, by decide +kernel⟩
theorem ck_L_shapes : ckBl (ckS tp pg 60 60 (topS n_L_shapes s_L_shapes)) (defBody s_L_shapes) fn_L_shapes.body = true := by decide +kernel
abbrev s_L_groups : Stmt := top 21
abbrev n_L_groups : List Str := ["_law_drawn", "_law_many", "_law_count", "_law_found", "_law_k", "_law_size", "_law_j"]
theorem sc_L_groups : FnScope n_L_groups ["_law_drawn", "_law_many", "_law_count"] (defScope s_L_groups) := ⟨rfl, rfl, rfl, by decide +kernel, rfl, by decide +kernel, by decide +kernel⟩
theorem ck_L_groups : ckBl (ckS tp pg 60 60 (topS n_L_groups s_L_groups)) (defBody s_L_groups) fn_L_groups.body = true := by decide +kernel
abbrev s_L_number : Stmt := top 22
abbrev n_L_number : List Str := ["_law_value", "_law_many"]
theorem sc_L_number : FnScope n_L_number ["_law_value", "_law_many"] (defScope s_L_number) := ⟨rfl, rfl, rfl, by decide +kernel, rfl, by decide +kernel, by decide +kernel⟩
theorem ck_L_number : ckBl (ckS tp pg 60 60 (topS n_L_number s_L_number)) (defBody s_L_number) fn_L_number.body = true := by decide +kernel
abbrev s_L_tuples : Stmt := top 23
abbrev n_L_tuples : List Str := ["_law_one_here", "_law_other"]
theorem sc_L_tuples : FnScope n_L_tuples ["_law_one_here", "_law_other"] (defScope s_L_tuples) := ⟨rfl, rfl, rfl, by decide +kernel, rfl, by decide +kernel, by decide +kernel⟩
theorem ck_L_tuples : ckBl (ckS tp pg 60 60 (topS n_L_tuples s_L_tuples)) (defBody s_L_tuples) fn_L_tuples.body = true := by decide +kernel
abbrev s_L_two : Stmt := top 24
abbrev n_L_two : List Str := ["_law_known", "_law_row", "_law_one_here", "_law_other"]
theorem sc_L_two : FnScope n_L_two ["_law_known", "_law_row"] (defScope s_L_two) := ⟨rfl, rfl, rfl, by decide +kernel, rfl, by decide +kernel, by decide +kernel⟩
theorem ck_L_two : ckBl (ckS tp pg 60 60 (topS n_L_two s_L_two)) (defBody s_L_two) fn_L_two.body = true := by decide +kernel
abbrev s_L_shown : Stmt := top 25
abbrev n_L_shown : List Str := ["_law_groups_here", "_law_known", "_law_row"]
theorem sc_L_shown : FnScope n_L_shown ["_law_groups_here", "_law_known", "_law_row"] (defScope s_L_shown) := ⟨rfl, rfl, rfl, by decide +kernel, rfl, by decide +kernel, by decide +kernel⟩
theorem ck_L_shown : ckBl (ckS tp pg 60 60 (topS n_L_shown s_L_shown)) (defBody s_L_shown) fn_L_shown.body = true := by decide +kernel
abbrev s_L_sides : Stmt := top 26
abbrev n_L_sides : List Str := ["_law_drawn", "_law_many", "_law_shape", "_law_way", "_law_one_here"]
theorem sc_L_sides : FnScope n_L_sides ["_law_drawn", "_law_many"] (defScope s_L_sides) := ⟨rfl, rfl, rfl, by decide +kernel, rfl, by decide +kernel, by decide +kernel⟩
theorem ck_L_sides : ckBl (ckS tp pg 60 60 (topS n_L_sides s_L_sides)) (defBody s_L_sides) fn_L_sides.body = true := by decide +kernel
abbrev s_L_due : Stmt := top 27
abbrev n_L_due : List Str := ["_law_groups_here", "_law_value", "_law_known", "_law_index", "_law_row", "_law_equation"]
theorem sc_L_due : FnScope n_L_due ["_law_groups_here", "_law_value"] (defScope s_L_due) := ⟨rfl, rfl, rfl, by decide +kernel, rfl, by decide +kernel, by decide +kernel⟩
theorem ck_L_due : ckBl (ckS tp pg 60 60 (topS n_L_due s_L_due)) (defBody s_L_due) fn_L_due.body = true := by decide +kernel
abbrev s_L_told : Stmt := top 28
abbrev n_L_told : List Str := ["_law_groups_here", "_law_value", "error"]
theorem sc_L_told : FnScope n_L_told ["_law_groups_here", "_law_value"] (defScope s_L_told) := ⟨rfl, rfl, rfl, by decide +kernel, rfl, by decide +kernel, by decide +kernel⟩
theorem ck_L_told : ckBl (ckS tp pg 60 60 (topS n_L_told s_L_told)) (defBody s_L_told) fn_L_told.body = true := by decide +kernel
abbrev s_L_tried : Stmt := top 29
abbrev n_L_tried : List Str := ["_law_drawn", "_law_groups_here", "_law_many", "_law_group", "_law_first", "_law_second", "_law_index", "_law_some"]
theorem sc_L_tried : FnScope n_L_tried ["_law_drawn", "_law_groups_here", "_law_many"] (defScope s_L_tried) := ⟨rfl, rfl, rfl, by decide +kernel, rfl, by decide +kernel, by decide +kernel⟩
theorem ck_L_tried : ckBl (ckS tp pg 60 60 (topS n_L_tried s_L_tried)) (defBody s_L_tried) fn_L_tried.body = true := by decide +kernel
abbrev s_L_chain : Stmt := top 30
abbrev n_L_chain : List Str := ["_law_drawn", "_law_groups_here", "_law_found", "_law_known", "_law_turn", "_law_row", "_law_equation"]
theorem sc_L_chain : FnScope n_L_chain ["_law_drawn", "_law_groups_here"] (defScope s_L_chain) := ⟨rfl, rfl, rfl, by decide +kernel, rfl, by decide +kernel, by decide +kernel⟩
theorem ck_L_chain : ckBl (ckS tp pg 60 60 (topS n_L_chain s_L_chain)) (defBody s_L_chain) fn_L_chain.body = true := by decide +kernel
abbrev s_L_spoilt : Stmt := top 31
abbrev n_L_spoilt : List Str := ["_law_drawn", "_law_groups_here", "_law_chain_here", "_law_spot", "_law_odd", "_law_more", "_law_row"]
theorem sc_L_spoilt : FnScope n_L_spoilt ["_law_drawn", "_law_groups_here", "_law_chain_here"] (defScope s_L_spoilt) := ⟨rfl, rfl, rfl, by decide +kernel, rfl, by decide +kernel, by decide +kernel⟩
theorem ck_L_spoilt : ckBl (ckS tp pg 60 60 (topS n_L_spoilt s_L_spoilt)) (defBody s_L_spoilt) fn_L_spoilt.body = true := by decide +kernel
abbrev s_law : Stmt := top 32
abbrev n_law : List Str := ["_law_script", "_law_drawn", "_law_turn", "_law_groups_here", "_law_chain_here", "_law_some", "_law_k", "_law_value", "_law_kept", "_law_due_here", "_law_told_here"]
theorem sc_law : FnScope n_law ["_law_script"] (defScope s_law) := ⟨rfl, rfl, rfl, by decide +kernel, rfl, by decide +kernel, by decide +kernel⟩
theorem ck_law : ckBl (ckS tp pg 60 60 (topS n_law s_law)) (defBody s_law) fn_law.body = true := by decide +kernel
abbrev i_BadChain : Stmt := inner 3 0
theorem is_BadChain : FnScope ["self", "index"] ["self", "index"] (defScope i_BadChain) := ⟨rfl, rfl, rfl, by decide +kernel, rfl, by decide +kernel, by decide +kernel⟩
end K18
set_option maxHeartbeats 8000000
namespace K18
open PySem NV LW
local macro_rules | `(tactic| walk_at "ev") => `(tactic| simp (config := { dsimp := false }) only [W_ok, W_exc, W_bad, ↓W_bind, ↓W_seq, seqQ_nx, seqQ_rt, seqQ_bk, seqQ_ct, W_chk, W_grd, W_opi, W_nox, W_cond, bind_ok, bind_exc, bind_bad, nox_ok, nox_bad, rc_t, rc_f, chk_true, chk_false, opt_some, opt_none, seq_nx, seq_rt, seq_bk, seq_ct, seq_exc, evN, evs, eva, evb, evo, evc, evp, exS, exB, esc, sto, stos, stoP, tgs, keepR, fzR, asBool, asOptInt, isiR, isxR, atrR, mthR, isMut, mutOk, mutR, mutF, NV.putF, NV.data, NV.data1, NV.dataS, NV.dataB, NV.dataR, NV.dat?, SV.data, SV.data1, NV.fz, isLstS, isDicS, bopF, copF, sq_self, eqF_ss, eqF_ii, eqF_bb, eqF_ln, eqF_tn, neF_ss, neF_ii, neF_bb, neF_ln, isN, idxF_t, idxF_l, atF, slcF, revF, biF, itF, isBor, items, iterF, avOf, isAv, List.map_cons, List.map_nil, List.all_cons, List.all_nil, List.getElem?_cons_zero, List.getElem?_cons_succ, List.set_cons_zero, List.set_cons_succ, Option.bind_some, Option.map_some, List.any_cons, List.any_nil, DW.isLst, tyIs, DW.isInt, DW.isBool, DW.isStr, DW.isTup, Bool.not_true, Bool.not_false, Bool.or_false, Bool.or_true, Bool.true_or, Bool.false_or, Bool.and_true, Bool.true_and, Bool.and_false, Bool.false_and, true_and, and_true, Tg.slots, mkExc, catches, tryR, retR, List.take_succ_cons, List.take_zero, List.length_cons, List.length_nil, List.append_nil, List.cons_append, List.nil_append, ixN0, ixN1, ixN2, forQ_nx, forQ_ct, forQ_bk, forQ_rt, whQ_nx, whQ_ct, whQ_bk, whQ_rt, atI0, atI1, atI2, atI3, forall_const, Bool.false_eq_true, false_and, and_false, not_false_eq_true, reduceCtorEq, false_implies, true_implies, eq_self_iff_true, Bool.true_eq_false, Nat.reduceAdd, Nat.zero_add, cn0, cn1, cn2, cn3, cn4, cn5, cn6, cn7, cn8, cn9, cn10, Int.reduceEq, Int.reduceLT, Int.reduceLE, Int.reduceSub, Int.reduceAdd, decide_true, decide_false])
/-! ### the law in plain words -/
abbrev Eqn := PyData × PyData
def pr (e : Eqn) : PyData := .tuple [e.1, e.2]
def grD (gs : List (List Eqn)) : PyData := .tuple (gs.map fun g => .tuple (g.map pr))
def inR (d : PyData) (m : Nat) : Option Nat :=
  match d with
  | .int i => if 0 ≤ i ∧ i < m then some i.toNat else none
  | _ => none
theorem inR_some {d : PyData} {m j : Nat} (h : inR d m = some j) : d = .int j ∧ j < m := by
  unfold inR at h
  split at h
  · split at h
    · rename_i i hi
      cases h
      refine ⟨congrArg _ (by omega), by omega⟩
    · cases h
  · cases h
def isNum (d : PyData) (m : Int) : Bool :=
  match d with
  | .int i => decide (0 ≤ i) && decide (i < m)
  | _ => false
theorem isNum_eq (d : PyData) (m : Nat) : isNum d m = (inR d m).isSome := by
  cases d with
  | int i =>
    unfold isNum inR
    by_cases h : 0 ≤ i ∧ i < m
    · simp only [if_pos h, decide_eq_true h.1, decide_eq_true h.2]; rfl
    · simp only [if_neg h]
      rw [← Bool.decide_and]
      exact decide_eq_false h
  | _ => rfl
theorem ok_of {r : R NV} {v : NV} {fin : Rho} (h : W r (fun v' fin' => v' = v ∧ fin' = fin) (fun _ _ => False)) : r = .ok v fin := by
  cases r with
  | ok a b => obtain ⟨rfl, rfl⟩ := h; rfl
  | exc x b => exact h.elim
  | bad => exact h.elim
theorem callR1 {Φ : Calls} {f : Str} {a : PyData} {v : NV} {ρ : Rho} (h : Φ f [.dat a] = .ok v [.dat a]) : callR Φ f [.dat a] ρ = .ok v ρ := by
  unfold callR
  show R.chk _ (match Φ f [.dat a] with | .ok v fin => .ok v (wback [.dat a] fin ρ) | .exc x fin => .exc x (wback [.dat a] fin ρ) | .bad => .bad) = _
  rw [h]
  rfl
theorem callR2 {Φ : Calls} {f : Str} {a b : PyData} {v : NV} {ρ : Rho} (h : Φ f [.dat a, .dat b] = .ok v [.dat a, .dat b]) : callR Φ f [.dat a, .dat b] ρ = .ok v ρ := by
  unfold callR
  show R.chk _ (match Φ f [.dat a, .dat b] with | .ok v fin => .ok v (wback [.dat a, .dat b] fin ρ) | .exc x fin => .exc x (wback [.dat a, .dat b] fin ρ) | .bad => .bad) = _
  rw [h]
  rfl
theorem e_is_number {n : Nat} (d : PyData) (m : Int) : NV.call pg (n + 1) "is_number" [.dat d, .dat (.int m)] = .ok (.dat (.bool (isNum d m))) [.dat d, .dat (.int m)] := by
  refine ok_of (W_call (np := 2) (nl := 2) lk_is_number rfl ?_)
  show W (exB pg (NV.call pg n) _ [.dat d, .dat (.int m)]) _ _
  cases d with
  | int i =>
    walk_at "ev"
    unfold isNum
    by_cases h0 : 0 ≤ i
    · by_cases h1 : i < m <;> simp [h0, h1]
    · simp [h0]
  | _ => walk_at "ev"; first | rfl | exact ⟨rfl, rfl⟩ | simp [isNum]
theorem e_L_number {n : Nat} (d : PyData) (m : Int) : NV.call pg (n + 1) "_law_number" [.dat d, .dat (.int m)] = .ok (.dat (.bool (isNum d m))) [.dat d, .dat (.int m)] := by
  refine ok_of (W_call (np := 2) (nl := 2) lk_L_number rfl ?_)
  show W (exB pg (NV.call pg n) _ [.dat d, .dat (.int m)]) _ _
  cases d with
  | int i =>
    walk_at "ev"
    unfold isNum
    by_cases h0 : 0 ≤ i
    · by_cases h1 : i < m <;> simp [h0, h1]
    · simp [h0]
  | _ => walk_at "ev"; first | rfl | exact ⟨rfl, rfl⟩ | simp [isNum]
theorem r_num {n : Nat} {d : PyData} {m : Int} {ρ : Rho} : callR (NV.call pg (n + 1)) "is_number" [.dat d, .dat (.int m)] ρ = .ok (.dat (.bool (isNum d m))) ρ := callR2 (e_is_number d m)
theorem r_lnum {n : Nat} {d : PyData} {m : Int} {ρ : Rho} : callR (NV.call pg (n + 1)) "_law_number" [.dat d, .dat (.int m)] ρ = .ok (.dat (.bool (isNum d m))) ρ := callR2 (e_L_number d m)
/-! ### shapes -/
def names : List Str := ["A", "B", "W", "P", "->"]
inductive Shp : Nat → PyData → Prop
  | var {n : Nat} {i : Int} : 0 ≤ i → i < 200 → Shp n (.int i)
  | tup {n : Nat} {x : Str} {ds : List PyData} : x ∈ names → ds.length ≤ 3 → (∀ d ∈ ds, Shp n d) → Shp (n + 1) (.tuple (.str x :: ds))
theorem Shp.mono {n m : Nat} (hm : n ≤ m) {d : PyData} (h : Shp n d) : Shp m d := by
  induction h generalizing m with
  | var a b => exact .var a b
  | tup a b c ih =>
    cases m with
    | zero => omega
    | succ m => exact .tup a b fun d hd => ih d hd (by omega)
def sizes : Nat → Nat
  | 0 => 1
  | n + 1 => 3 * sizes n + 2
theorem sizes_pos (n : Nat) : 1 ≤ sizes n := by
  cases n with
  | zero => exact Nat.le_refl _
  | succ n => unfold sizes; omega
theorem name_rp {x : Str} (h : x ∈ names) : rp (.str x) = true := by
  have key : ∀ y ∈ names, rp (.str y) = true := by decide +kernel
  exact key x h
theorem Shp.sm {n : Nat} {d : PyData} (h : Shp n d) : Sm (sizes n) n d := by
  induction h with
  | var a b => exact (Sm.int (by omega) (by omega)).mono (sizes_pos _) (Nat.zero_le _)
  | @tup n x ds a b c ih =>
    refine ⟨?_, ?_, ?_⟩
    · rw [rp, rps, name_rp a]
      exact rps_iff.mpr fun d hd => (ih d hd).r
    · rw [sz, szs, sz]
      · have := szs_le fun d hd => (ih d hd).s
        have := Nat.mul_le_mul_left (sizes n) b
        unfold sizes
        omega
      all_goals (intro ds e; exact nomatch e)
    · rw [PyData.depth, PyData.depthAll]
      have := depthAll_le fun d hd => (ih d hd).d
      rw [PyData.depth]
      omega
/-- both sides are shapes -/
def EqOk (e : Eqn) : Prop := Shp 3 e.1 ∧ Shp 3 e.2
def alike (a b : PyData) : Bool :=
  match a, b with
  | .tuple (.str x :: ds), .tuple (.str y :: es) => decide (x = y) && decide (ds.length = es.length)
  | _, _ => false
theorem alike_tt {x y : Str} {ds es : List PyData} : alike (.tuple (.str x :: ds)) (.tuple (.str y :: es)) = (sq x y && decide (ds.length = es.length)) := rfl
theorem dec_len {a b : Nat} : decide (((a + 1 : Nat) : Int) = ((b + 1 : Nat) : Int)) = decide (a = b) := by
  by_cases h : a = b
  · subst h; simp
  · rw [decide_eq_false h, decide_eq_false]; omega
theorem e_is_variable {n : Nat} (d : PyData) : NV.call pg (n + 1) "is_variable" [.dat d] = .ok (.dat (.bool (DW.isInt d))) [.dat d] := by
  refine ok_of (W_call (np := 1) (nl := 1) lk_is_variable rfl ?_)
  show W (exB pg (NV.call pg n) _ [.dat d]) _ _
  cases d <;> (walk_at "ev")
theorem r_var {n : Nat} {d : PyData} {ρ : Rho} : callR (NV.call pg (n + 1)) "is_variable" [.dat d] ρ = .ok (.dat (.bool (DW.isInt d))) ρ := callR1 (e_is_variable d)
theorem e_are_alike {n m : Nat} {a b : PyData} (ha : Shp m a) (hb : Shp m b) : NV.call pg (n + 2) "are_alike" [.dat a, .dat b] = .ok (.dat (.bool (alike a b))) [.dat a, .dat b] := by
  refine ok_of (W_call (np := 2) (nl := 2) lk_are_alike rfl ?_)
  show W (exB pg (NV.call pg (n + 1)) _ [.dat a, .dat b]) _ _
  cases ha with
  | var h0 h1 => walk_at "ev"; simp only [r_var]; walk_at "ev"; rfl
  | tup a1 a2 a3 =>
    cases hb with
    | var h0 h1 => walk_at "ev"; simp only [r_var]; walk_at "ev"; simp only [r_var]; walk_at "ev"; rfl
    | tup b1 b2 b3 =>
      walk_at "ev"; simp only [r_var]; walk_at "ev"; simp only [r_var]; walk_at "ev"
      rw [alike_tt]
      refine ⟨fun h => ?_, fun h => ?_⟩
      · rw [h, dec_len]; rfl
      · rw [h]; rfl
theorem e_L_tuples {n m : Nat} {a b : PyData} (ha : Shp m a) (hb : Shp m b) : NV.call pg (n + 1) "_law_tuples" [.dat a, .dat b] = .ok (.dat (.bool (alike a b))) [.dat a, .dat b] := by
  refine ok_of (W_call (np := 2) (nl := 2) lk_L_tuples rfl ?_)
  show W (exB pg (NV.call pg n) _ [.dat a, .dat b]) _ _
  cases ha with
  | var h0 h1 => walk_at "ev"; rfl
  | tup a1 a2 a3 =>
    cases hb with
    | var h0 h1 => walk_at "ev"; rfl
    | tup b1 b2 b3 =>
      walk_at "ev"
      rw [alike_tt]
      refine ⟨fun h => ?_, fun h => ?_⟩
      · rw [h, dec_len]; rfl
      · rw [h]; rfl
theorem r_alike {n : Nat} {a b : PyData} {ρ : Rho} (ha : Shp 3 a) (hb : Shp 3 b) : callR (NV.call pg (n + 2)) "are_alike" [.dat a, .dat b] ρ = .ok (.dat (.bool (alike a b))) ρ := callR2 (e_are_alike ha hb)
theorem r_tuples {n : Nat} {a b : PyData} {ρ : Rho} (ha : Shp 3 a) (hb : Shp 3 b) : callR (NV.call pg (n + 1)) "_law_tuples" [.dat a, .dat b] ρ = .ok (.dat (.bool (alike a b))) ρ := callR2 (e_L_tuples ha hb)
local macro_rules | `(tactic| walk_at "ew") => `(tactic| simp (config := { dsimp := false }) only [*, r_num, r_lnum, r_var, isNum_eq, List.length_map, Option.isSome_none, Option.isSome_some, W_ok, W_exc, W_bad, ↓W_bind, ↓W_seq, seqQ_nx, seqQ_rt, seqQ_bk, seqQ_ct, W_chk, W_grd, W_opi, W_nox, W_cond, bind_ok, bind_exc, bind_bad, nox_ok, nox_bad, rc_t, rc_f, chk_true, chk_false, opt_some, opt_none, seq_nx, seq_rt, seq_bk, seq_ct, seq_exc, evN, evs, eva, evb, evo, evc, evp, exS, exB, esc, sto, stos, stoP, tgs, keepR, fzR, asBool, asOptInt, isiR, isxR, atrR, mthR, isMut, mutOk, mutR, mutF, NV.putF, NV.data, NV.data1, NV.dataS, NV.dataB, NV.dataR, NV.dat?, SV.data, SV.data1, NV.fz, isLstS, isDicS, bopF, copF, sq_self, eqF_ss, eqF_ii, eqF_bb, eqF_ln, eqF_tn, neF_ss, neF_ii, neF_bb, neF_ln, isN, idxF_t, idxF_l, atF, slcF, revF, biF, itF, isBor, items, iterF, avOf, isAv, List.map_cons, List.map_nil, List.all_cons, List.all_nil, List.getElem?_cons_zero, List.getElem?_cons_succ, List.set_cons_zero, List.set_cons_succ, Option.bind_some, Option.map_some, List.any_cons, List.any_nil, DW.isLst, tyIs, DW.isInt, DW.isBool, DW.isStr, DW.isTup, Bool.not_true, Bool.not_false, Bool.or_false, Bool.or_true, Bool.true_or, Bool.false_or, Bool.and_true, Bool.true_and, Bool.and_false, Bool.false_and, true_and, and_true, Tg.slots, mkExc, catches, tryR, retR, List.take_succ_cons, List.take_zero, List.length_cons, List.length_nil, List.append_nil, List.cons_append, List.nil_append, ixN0, ixN1, ixN2, forQ_nx, forQ_ct, forQ_bk, forQ_rt, whQ_nx, whQ_ct, whQ_bk, whQ_rt, atI0, atI1, atI2, atI3, forall_const, Bool.false_eq_true, false_and, and_false, not_false_eq_true, reduceCtorEq, false_implies, true_implies, eq_self_iff_true, Bool.true_eq_false, Nat.reduceAdd, Nat.zero_add, cn0, cn1, cn2, cn3, cn4, cn5, cn6, cn7, cn8, cn9, cn10, Int.reduceEq, Int.reduceLT, Int.reduceLE, Int.reduceSub, Int.reduceAdd, decide_true, decide_false])
/-! ### what a row shows -/
def swapE (e : Eqn) : Eqn := (e.2, e.1)
def givF (gs : List (List Eqn)) (a b : PyData) : Option Eqn := (inR a gs.length).bind fun i => (gs[i]?).bind fun g => (inR b g.length).bind fun j => g[j]?
def joinF (known : List Eqn) (e : Eqn) (b : PyData) : Option Eqn := (inR b known.length).bind fun j => (known[j]?).bind fun e2 => if PyData.eqv e2.1 e.2 = true then some (e.1, e2.2) else none
def partF (e : Eqn) (b : PyData) : Option Eqn :=
  match e.1, e.2 with
  | .tuple (.str x :: ds), .tuple (.str y :: es) => if x = y ∧ ds.length = es.length then (inR b ds.length).bind fun j => (ds[j]?).bind fun p => (es[j]?).map fun q => (p, q) else none
  | _, _ => none
def shownF (gs : List (List Eqn)) (known : List Eqn) (row : PyData) : Option Eqn :=
  match row with
  | .tuple [.str h, a] => if h = "given" then none else (inR a known.length).bind fun i => if h = "turned" then (known[i]?).map swapE else none
  | .tuple [.str h, a, b] => if h = "given" then givF gs a b else (inR a known.length).bind fun i => (known[i]?).bind fun e => if h = "turned" then none else if h = "joined" then joinF known e b else if h = "part" then partF e b else none
  | _ => none
def enc : Option Eqn → PyData
  | none => .none
  | some e => pr e
theorem at_map {α : Type} {l : List α} {f : α → PyData} {j : Nat} {a : α} (h : l[j]? = some a) : L2.atI (l.map f) (j : Int) = some (f a) := atI_nat (by rw [List.getElem?_map, h]; rfl)
theorem get_of {α : Type} {l : List α} {j : Nat} (h : j < l.length) : ∃ a, l[j]? = some a ∧ a ∈ l := ⟨l[j], List.getElem?_eq_getElem h, List.getElem_mem h⟩
theorem e_given_by {n : Nat} {gs : List (List Eqn)} {h : Str} {a b : PyData} : NV.call pg (n + 2) "given_by" [.dat (grD gs), .dat (.tuple [.str h, a, b])] = .ok (.dat (enc (givF gs a b))) [.dat (grD gs), .dat (.tuple [.str h, a, b])] := by
  refine ok_of (W_call (np := 2) (nl := 2) lk_given_by rfl ?_)
  show W (exB pg (NV.call pg (n + 1)) _ [.dat (.tuple (gs.map fun g => .tuple (g.map pr))), .dat (.tuple [.str h, a, b])]) _ _
  cases ha : inR a gs.length with
  | none =>
    have e : enc (givF gs a b) = .none := by unfold givF; rw [ha]; rfl
    rw [e]
    walk_at "ew"
    rfl
  | some i =>
    obtain ⟨rfl, hi⟩ := inR_some ha
    obtain ⟨g, hg, _⟩ := get_of hi
    have ag := at_map (f := fun g => PyData.tuple (g.map pr)) hg
    cases hb : inR b g.length with
    | none =>
      have e : enc (givF gs (.int i) b) = .none := by unfold givF; rw [ha, Option.bind_some, hg, Option.bind_some, hb]; rfl
      rw [e]
      walk_at "ew"
      rfl
    | some j =>
      obtain ⟨rfl, hj⟩ := inR_some hb
      obtain ⟨q, hq, _⟩ := get_of hj
      have aq := at_map (f := pr) hq
      have e : enc (givF gs (.int i) (.int j)) = pr q := by unfold givF; rw [ha, Option.bind_some, hg, Option.bind_some, hb, Option.bind_some, hq]; rfl
      rw [e]
      walk_at "ew"
      rfl
theorem r_given {n : Nat} {gs : List (List Eqn)} {h : Str} {a b : PyData} {ρ : Rho} : callR (NV.call pg (n + 2)) "given_by" [.dat (grD gs), .dat (.tuple [.str h, a, b])] ρ = .ok (.dat (enc (givF gs a b))) ρ := callR2 e_given_by
theorem ne_of {n m n' m' : Nat} {a b : PyData} (h : Sm n m a) (h' : Sm n' m' b) (hm : m ≤ 64 := by decide) (hm' : m' ≤ 64 := by decide) : neF a b = some (!PyData.eqv a b) := by
  have e := h.eqOk h' hm hm'
  unfold neF
  split
  · rfl
  · rfl
  · rename_i x y; cases x <;> cases y <;> rfl
  · rename_i a; cases a <;> rfl
  · rw [if_pos e]
theorem eq_of {n m n' m' : Nat} {a b : PyData} (h : Sm n m a) (h' : Sm n' m' b) (hm : m ≤ 64 := by decide) (hm' : m' ≤ 64 := by decide) : eqF a b = some (PyData.eqv a b) := by
  have e := h.eqOk h' hm hm'
  unfold eqF
  split
  · rfl
  · rfl
  · rename_i x y; cases x <;> cases y <;> rfl
  · rename_i a; cases a <;> rfl
  · rename_i a; cases a <;> rfl
  · rw [if_pos e]
theorem e_joined {n : Nat} {known : List Eqn} {e : Eqn} {b : PyData} (hk : ∀ e ∈ known, EqOk e) (he : EqOk e) :
    NV.call pg (n + 2) "joined" [.own true (known.map pr), .dat (.tuple [e.1, e.2]), .dat b] = .ok (.dat (enc (joinF known e b))) [.own true (known.map pr), .dat (.tuple [e.1, e.2]), .dat b] := by
  refine ok_of (W_call (np := 3) (nl := 3) lk_joined rfl ?_)
  show W (exB pg (NV.call pg (n + 1)) _ [.own true (known.map pr), .dat (.tuple [e.1, e.2]), .dat b]) _ _
  cases hb : inR b known.length with
  | none =>
    have e : enc (joinF known e b) = .none := by unfold joinF; rw [hb]; rfl
    rw [e]
    walk_at "ew"
  | some j =>
    obtain ⟨rfl, hj⟩ := inR_some hb
    obtain ⟨q, hq, hm⟩ := get_of hj
    have aq : L2.atI (known.map pr) (j : Int) = some (.tuple [q.1, q.2]) := at_map (f := pr) hq
    have hne : neF q.1 e.2 = some (!PyData.eqv q.1 e.2) := ne_of (hk q hm).1.sm he.2.sm
    cases hv : PyData.eqv q.1 e.2 with
    | true =>
      have e : enc (joinF known e (.int j)) = .tuple [e.1, q.2] := by unfold joinF; rw [hb, Option.bind_some, hq, Option.bind_some, if_pos hv]; rfl
      rw [e]
      walk_at "ew"
    | false =>
      have e : enc (joinF known e (.int j)) = .none := by unfold joinF; rw [hb, Option.bind_some, hq, Option.bind_some, if_neg (by rw [hv]; decide)]; rfl
      rw [e]
      walk_at "ew"
theorem r_joined {n : Nat} {known : List Eqn} {e : Eqn} (hk : ∀ e ∈ known, EqOk e) (he : EqOk e) : ∀ {b : PyData} {c : Bool} {s0 : SV} {rest : Rho}, callR (NV.call pg (n + 2)) "joined" [.ali 1, .dat (.tuple [e.1, e.2]), .dat b] (s0 :: .own c (known.map pr) :: rest) = .ok (.dat (enc (joinF known e b))) (s0 :: .own c (known.map pr) :: rest) := fun {b c s0 rest} => by
  unfold callR
  show R.chk _ (match NV.call pg (n + 2) "joined" [.own true (known.map pr), .dat (.tuple [e.1, e.2]), .dat b] with | .ok v fin => .ok v (wback [.ali 1, .dat (.tuple [e.1, e.2]), .dat b] fin (s0 :: .own c (known.map pr) :: rest)) | .exc x fin => .exc x (wback [.ali 1, .dat (.tuple [e.1, e.2]), .dat b] fin (s0 :: .own c (known.map pr) :: rest)) | .bad => .bad) = _
  rw [e_joined hk he]
  rfl
/-- 2 or 3 -/
theorem in23 (k : Nat) : inF (.int k) (.tuple [.int 2, .int 3]) = some (decide (k = 2) || decide (k = 3)) := by
  show (if eqOk (.int k) (.tuple [.int 2, .int 3]) = true then some (PyData.eqv (.int 2) (.int k) || (PyData.eqv (.int 3) (.int k) || false)) else none) = _
  rw [if_pos (by rfl)]
  have e2 : PyData.eqv (.int 2) (.int k) = decide (k = 2) := by
    show ((2 : Int) == (k : Int)) = _
    by_cases h : k = 2
    · subst h; rfl
    · rw [decide_eq_false h]; simp; omega
  have e3 : PyData.eqv (.int 3) (.int k) = decide (k = 3) := by
    show ((3 : Int) == (k : Int)) = _
    by_cases h : k = 3
    · subst h; rfl
    · rw [decide_eq_false h]; simp; omega
  rw [e2, e3, Bool.or_false]
theorem in_0 : inF (.int 0) (.tuple [.int 2, .int 3]) = some false := by rfl
theorem in_1 : inF (.int 1) (.tuple [.int 2, .int 3]) = some false := by rfl
theorem in_2 : inF (.int 2) (.tuple [.int 2, .int 3]) = some true := by rfl
theorem in_3 : inF (.int 3) (.tuple [.int 2, .int 3]) = some true := by rfl
theorem in_4 {m : Nat} : inF (.int ((m + 1 + 1 + 1 + 1 : Nat) : Int)) (.tuple [.int 2, .int 3]) = some false := by
  rw [in23, decide_eq_false (by omega), decide_eq_false (by omega)]; rfl
theorem e_given2 {n : Nat} {gs : List (List Eqn)} {h : Str} {a : PyData} : NV.call pg (n + 2) "given_by" [.dat (grD gs), .dat (.tuple [.str h, a])] = .ok (.dat .none) [.dat (grD gs), .dat (.tuple [.str h, a])] := by
  refine ok_of (W_call (np := 2) (nl := 2) lk_given_by rfl ?_)
  show W (exB pg (NV.call pg (n + 1)) _ [.dat (grD gs), .dat (.tuple [.str h, a])]) _ _
  walk_at "ew"
theorem r_given2 {n : Nat} {gs : List (List Eqn)} {h : Str} {a : PyData} {ρ : Rho} : callR (NV.call pg (n + 2)) "given_by" [.dat (grD gs), .dat (.tuple [.str h, a])] ρ = .ok (.dat .none) ρ := callR2 e_given2
section
variable {gs : List (List Eqn)} {known : List Eqn} {h : Str} {a b : PyData} {q : Eqn} {i : Nat}
theorem sh2_given (hg : h = "given") : shownF gs known (.tuple [.str h, a]) = none := by
  show ite (h = "given") none ((inR a known.length).bind fun i => if h = "turned" then (known[i]?).map swapE else none) = none
  exact if_pos hg
theorem sh3_given (hg : h = "given") : shownF gs known (.tuple [.str h, a, b]) = givF gs a b := by
  show ite (h = "given") (givF gs a b) ((inR a known.length).bind fun i => (known[i]?).bind fun e => if h = "turned" then none else if h = "joined" then joinF known e b else if h = "part" then partF e b else none) = _
  exact if_pos hg
theorem sh2_none (hg : h ≠ "given") (ha : inR a known.length = none) : shownF gs known (.tuple [.str h, a]) = none := by
  show (if h = "given" then none else (inR a known.length).bind _) = _
  rw [if_neg hg, ha]; rfl
theorem sh2_some (hg : h ≠ "given") (ha : inR (.int i) known.length = some i) (hq : known[i]? = some q) : shownF gs known (.tuple [.str h, .int i]) = if h = "turned" then some (swapE q) else none := by
  show (if h = "given" then none else (inR (.int i) known.length).bind fun i => if h = "turned" then (known[i]?).map swapE else none) = _
  rw [if_neg hg, ha, Option.bind_some, hq]; rfl
theorem sh3_none (hg : h ≠ "given") (ha : inR a known.length = none) : shownF gs known (.tuple [.str h, a, b]) = none := by
  show (if h = "given" then _ else (inR a known.length).bind _) = _
  rw [if_neg hg, ha]; rfl
theorem sh3_some (hg : h ≠ "given") (ha : inR (.int i) known.length = some i) (hq : known[i]? = some q) : shownF gs known (.tuple [.str h, .int i, b]) = if h = "turned" then none else if h = "joined" then joinF known q b else if h = "part" then partF q b else none := by
  show (if h = "given" then _ else (inR (.int i) known.length).bind fun i => (known[i]?).bind fun e => if h = "turned" then none else if h = "joined" then joinF known e b else if h = "part" then partF e b else none) = _
  rw [if_neg hg, ha, Option.bind_some, hq]; rfl
theorem alike_true (h : alike q.1 q.2 = true) : ∃ x ds es, q.1 = .tuple (.str x :: ds) ∧ q.2 = .tuple (.str x :: es) ∧ ds.length = es.length := by
  unfold alike at h
  split at h
  · rename_i x ds y es e1 e2
    simp only [Bool.and_eq_true, decide_eq_true_eq] at h
    obtain ⟨rfl, h2⟩ := h
    exact ⟨x, ds, es, e1, e2, h2⟩
  · cases h
theorem part_none (h : alike q.1 q.2 = false) : partF q b = none := by
  unfold partF
  split
  · rename_i x ds y es e1 e2
    rw [e1, e2, alike_tt] at h
    rw [if_neg]
    intro hh
    rw [sq_t hh.1, decide_eq_true hh.2] at h
    cases h
  · rfl
theorem part_out {x : Str} {ds es : List PyData} (e1 : q.1 = .tuple (.str x :: ds)) (e2 : q.2 = .tuple (.str x :: es)) (hl : ds.length = es.length) (hb : inR b ds.length = none) : partF q b = none := by
  unfold partF
  rw [e1, e2]
  show (if x = x ∧ ds.length = es.length then (inR b ds.length).bind _ else none) = _
  rw [if_pos ⟨rfl, hl⟩, hb]; rfl
theorem part_in {x : Str} {ds es : List PyData} {j : Nat} {p p2 : PyData} (e1 : q.1 = .tuple (.str x :: ds)) (e2 : q.2 = .tuple (.str x :: es)) (hl : ds.length = es.length) (hb : inR (.int j) ds.length = some j) (h1 : ds[j]? = some p) (h2 : es[j]? = some p2) : partF q (.int j) = some (p, p2) := by
  unfold partF
  rw [e1, e2]
  show (if x = x ∧ ds.length = es.length then (inR (.int j) ds.length).bind fun j => (ds[j]?).bind fun p => (es[j]?).map fun q => (p, q) else none) = _
  rw [if_pos ⟨rfl, hl⟩, hb, Option.bind_some, h1, Option.bind_some, h2]; rfl
end
theorem at_succ {c : PyData} {l : List PyData} {j : Nat} {a : PyData} (h : l[j]? = some a) : L2.atI (c :: l) ((j : Int) + 1) = some a := by
  have := atI_nat (l := c :: l) (i := j + 1) (a := a) (by simpa using h)
  simpa using this
theorem at_succ' {c : PyData} {l : List PyData} {j : Nat} {a : PyData} (h : l[j]? = some a) : L2.atI (c :: l) (1 + (j : Int)) = some a := by
  rw [Int.add_comm]; exact at_succ h
theorem enc_n : enc none = .none := rfl
theorem enc_s {e : Eqn} : enc (some e) = .tuple [e.1, e.2] := rfl
theorem swap_1 {e : Eqn} : (swapE e).1 = e.2 := rfl
theorem swap_2 {e : Eqn} : (swapE e).2 = e.1 := rfl
theorem sub1 {k : Nat} : (((k + 1 : Nat) : Int) - 1) = (k : Int) := by omega
local macro_rules | `(tactic| walk_at "ew") => `(tactic| simp (config := { dsimp := false }) only [*, r_num, r_lnum, r_var, isNum_eq, r_given, r_given2, sub1, enc_n, enc_s, swap_1, swap_2, in_0, in_1, in_2, in_3, in_4, List.length_map, Option.isSome_none, Option.isSome_some, W_ok, W_exc, W_bad, ↓W_bind, ↓W_seq, seqQ_nx, seqQ_rt, seqQ_bk, seqQ_ct, W_chk, W_grd, W_opi, W_nox, W_cond, bind_ok, bind_exc, bind_bad, nox_ok, nox_bad, rc_t, rc_f, chk_true, chk_false, opt_some, opt_none, seq_nx, seq_rt, seq_bk, seq_ct, seq_exc, evN, evs, eva, evb, evo, evc, evp, exS, exB, esc, sto, stos, stoP, tgs, keepR, fzR, asBool, asOptInt, isiR, isxR, atrR, mthR, isMut, mutOk, mutR, mutF, NV.putF, NV.data, NV.data1, NV.dataS, NV.dataB, NV.dataR, NV.dat?, SV.data, SV.data1, NV.fz, isLstS, isDicS, bopF, copF, sq_self, eqF_ss, eqF_ii, eqF_bb, eqF_ln, eqF_tn, neF_ss, neF_ii, neF_bb, neF_ln, isN, idxF_t, idxF_l, atF, slcF, revF, biF, itF, isBor, items, iterF, avOf, isAv, List.map_cons, List.map_nil, List.all_cons, List.all_nil, List.getElem?_cons_zero, List.getElem?_cons_succ, List.set_cons_zero, List.set_cons_succ, Option.bind_some, Option.map_some, List.any_cons, List.any_nil, DW.isLst, tyIs, DW.isInt, DW.isBool, DW.isStr, DW.isTup, Bool.not_true, Bool.not_false, Bool.or_false, Bool.or_true, Bool.true_or, Bool.false_or, Bool.and_true, Bool.true_and, Bool.and_false, Bool.false_and, true_and, and_true, Tg.slots, mkExc, catches, tryR, retR, List.take_succ_cons, List.take_zero, List.length_cons, List.length_nil, List.append_nil, List.cons_append, List.nil_append, ixN0, ixN1, ixN2, forQ_nx, forQ_ct, forQ_bk, forQ_rt, whQ_nx, whQ_ct, whQ_bk, whQ_rt, atI0, atI1, atI2, atI3, forall_const, Bool.false_eq_true, false_and, and_false, not_false_eq_true, reduceCtorEq, false_implies, true_implies, eq_self_iff_true, Bool.true_eq_false, Nat.reduceAdd, Nat.zero_add, cn0, cn1, cn2, cn3, cn4, cn5, cn6, cn7, cn8, cn9, cn10, Int.reduceEq, Int.reduceLT, Int.reduceLE, Int.reduceSub, Int.reduceAdd, decide_true, decide_false])
theorem sb_other {n : Nat} {gs : List (List Eqn)} {known : List Eqn} {row : PyData} (hk : ∀ e ∈ known, EqOk e) (h2 : ∀ h a, row ≠ .tuple [.str h, a]) (h3 : ∀ h a b, row ≠ .tuple [.str h, a, b]) :
    W (exB pg (NV.call pg (n + 2)) fn_shown_by.body [.dat (grD gs), .own true (known.map pr), .dat row, .no, .no]) (fun fl ρ => W (retR 3 (.ok fl ρ)) (fun v fin => v = .dat .none ∧ fin = [.dat (grD gs), .own true (known.map pr), .dat row]) fun _ _ => False) (fun _ _ => False) := by
  unfold fn_shown_by
  cases row with
  | tuple ds =>
    match ds with
    | [] => walk_at "ew"
    | [a] => walk_at "ew"
    | a :: b :: c :: d :: r => walk_at "ew"
    | [a, b] => cases a <;> first | exact absurd rfl (h2 _ _) | (clear h2 h3; walk_at "ew")
    | [a, b, c] => cases a <;> first | exact absurd rfl (h3 _ _ _) | (clear h2 h3; walk_at "ew")
  | _ => clear h2 h3; walk_at "ew"
end K18
set_option maxHeartbeats 8000000
namespace K18
open PySem NV LW
local macro_rules | `(tactic| walk_at "ew") => `(tactic| simp (config := { dsimp := false }) only [*, r_num, r_lnum, r_var, isNum_eq, r_given, r_given2, sub1, enc_n, enc_s, swap_1, swap_2, in_0, in_1, in_2, in_3, in_4, List.length_map, Option.isSome_none, Option.isSome_some, W_ok, W_exc, W_bad, ↓W_bind, ↓W_seq, seqQ_nx, seqQ_rt, seqQ_bk, seqQ_ct, W_chk, W_grd, W_opi, W_nox, W_cond, bind_ok, bind_exc, bind_bad, nox_ok, nox_bad, rc_t, rc_f, chk_true, chk_false, opt_some, opt_none, seq_nx, seq_rt, seq_bk, seq_ct, seq_exc, evN, evs, eva, evb, evo, evc, evp, exS, exB, esc, sto, stos, stoP, tgs, keepR, fzR, asBool, asOptInt, isiR, isxR, atrR, mthR, isMut, mutOk, mutR, mutF, NV.putF, NV.data, NV.data1, NV.dataS, NV.dataB, NV.dataR, NV.dat?, SV.data, SV.data1, NV.fz, isLstS, isDicS, bopF, copF, sq_self, eqF_ss, eqF_ii, eqF_bb, eqF_ln, eqF_tn, neF_ss, neF_ii, neF_bb, neF_ln, isN, idxF_t, idxF_l, atF, slcF, revF, biF, itF, isBor, items, iterF, avOf, isAv, List.map_cons, List.map_nil, List.all_cons, List.all_nil, List.getElem?_cons_zero, List.getElem?_cons_succ, List.set_cons_zero, List.set_cons_succ, Option.bind_some, Option.map_some, List.any_cons, List.any_nil, DW.isLst, tyIs, DW.isInt, DW.isBool, DW.isStr, DW.isTup, Bool.not_true, Bool.not_false, Bool.or_false, Bool.or_true, Bool.true_or, Bool.false_or, Bool.and_true, Bool.true_and, Bool.and_false, Bool.false_and, true_and, and_true, Tg.slots, mkExc, catches, tryR, retR, List.take_succ_cons, List.take_zero, List.length_cons, List.length_nil, List.append_nil, List.cons_append, List.nil_append, ixN0, ixN1, ixN2, forQ_nx, forQ_ct, forQ_bk, forQ_rt, whQ_nx, whQ_ct, whQ_bk, whQ_rt, atI0, atI1, atI2, atI3, forall_const, Bool.false_eq_true, false_and, and_false, not_false_eq_true, reduceCtorEq, false_implies, true_implies, eq_self_iff_true, Bool.true_eq_false, Nat.reduceAdd, Nat.zero_add, cn0, cn1, cn2, cn3, cn4, cn5, cn6, cn7, cn8, cn9, cn10, Int.reduceEq, Int.reduceLT, Int.reduceLE, Int.reduceSub, Int.reduceAdd, decide_true, decide_false])
local macro_rules | `(tactic| walk_at "st") => `(tactic| (refine W_st fun Q' hq => ?_; walk_at "ew"; (try simp only [hq.nx, hq.rt, hq.bk, hq.ct]); (try clear hq Q')))
local macro_rules | `(tactic| walk_at "run") => `(tactic| ((repeat walk_at "st"); (try walk_at "ew")))
theorem sb_2 {n : Nat} {gs : List (List Eqn)} {known : List Eqn} {h : Str} {a : PyData} (hk : ∀ e ∈ known, EqOk e) :
    W (exB pg (NV.call pg (n + 2)) fn_shown_by.body [.dat (grD gs), .own true (known.map pr), .dat (.tuple [.str h, a]), .no, .no]) (fun fl ρ => W (retR 3 (.ok fl ρ)) (fun v fin => v = .dat (enc (shownF gs known (.tuple [.str h, a]))) ∧ fin = [.dat (grD gs), .own true (known.map pr), .dat (.tuple [.str h, a])]) fun _ _ => False) (fun _ _ => False) := by
  show W (exB pg _ (_ :: _) _) _ _
  by_cases hg : h = "given"
  · rw [sh2_given hg]
    have hg' := sq_t hg
    clear hg
    walk_at "run"
  · have hg' := sq_f hg
    cases ha : inR a known.length with
    | none =>
      rw [sh2_none hg ha]
      clear hg
      walk_at "run"
    | some i =>
      obtain ⟨rfl, hi⟩ := inR_some ha
      obtain ⟨q, hq, hm⟩ := get_of hi
      have aq : L2.atI (known.map pr) (i : Int) = some (.tuple [q.1, q.2]) := at_map (f := pr) hq
      rw [sh2_some hg ha hq]
      clear hg
      by_cases ht : h = "turned"
      · rw [if_pos ht]
        have ht' := sq_t ht
        clear ht
        walk_at "run"
      · have ht' := sq_f ht
        rw [if_neg ht]
        clear ht
        walk_at "run"
theorem sb_3 {n : Nat} {gs : List (List Eqn)} {known : List Eqn} {h : Str} {a b : PyData} (hk : ∀ e ∈ known, EqOk e) :
    W (exB pg (NV.call pg (n + 2)) fn_shown_by.body [.dat (grD gs), .own true (known.map pr), .dat (.tuple [.str h, a, b]), .no, .no]) (fun fl ρ => W (retR 3 (.ok fl ρ)) (fun v fin => v = .dat (enc (shownF gs known (.tuple [.str h, a, b]))) ∧ fin = [.dat (grD gs), .own true (known.map pr), .dat (.tuple [.str h, a, b])]) fun _ _ => False) (fun _ _ => False) := by
  show W (exB pg _ (_ :: _) _) _ _
  by_cases hg : h = "given"
  · rw [sh3_given hg]
    have hg' := sq_t hg
    clear hg
    walk_at "run"
  · have hg' := sq_f hg
    cases ha : inR a known.length with
    | none =>
      rw [sh3_none hg ha]
      clear hg
      walk_at "run"
    | some i =>
      obtain ⟨rfl, hi⟩ := inR_some ha
      obtain ⟨q, hq, hm⟩ := get_of hi
      have aq : L2.atI (known.map pr) (i : Int) = some (.tuple [q.1, q.2]) := at_map (f := pr) hq
      rw [sh3_some hg ha hq]
      clear hg
      by_cases ht : h = "turned"
      · rw [if_pos ht]
        have ht' := sq_t ht
        clear ht
        walk_at "run"
      · have ht' := sq_f ht
        rw [if_neg ht]
        clear ht
        by_cases hj : h = "joined"
        · rw [if_pos hj]
          have hj' := sq_t hj
          clear hj
          have rj := @r_joined n known q hk (hk q hm)
          walk_at "run"
        · have hj' := sq_f hj
          rw [if_neg hj]
          clear hj
          by_cases hp : h = "part"
          · rw [if_pos hp]
            have hp' := sq_t hp
            clear hp
            have ral := fun ρ => r_alike (n := n) (ρ := ρ) (hk q hm).1 (hk q hm).2
            cases hal : alike q.1 q.2 with
            | false =>
              rw [part_none hal]
              walk_at "run"
            | true =>
              obtain ⟨x, ds, es, e1, e2, hlen⟩ := alike_true hal
              rw [e1, e2] at ral hal aq
              cases hb : inR b ds.length with
              | none =>
                rw [part_out e1 e2 hlen hb]
                clear hlen
                walk_at "run"
              | some j =>
                obtain ⟨rfl, hjl⟩ := inR_some hb
                obtain ⟨p, hp1, _⟩ := get_of hjl
                obtain ⟨p2, hp2, _⟩ := get_of (l := es) (j := j) (by omega)
                have a1 := at_succ (c := PyData.str x) hp1
                have a2 := at_succ (c := PyData.str x) hp2
                rw [part_in e1 e2 hlen hb hp1 hp2]
                clear hlen
                walk_at "run"
          · have hp' := sq_f hp
            rw [if_neg hp]
            clear hp
            walk_at "run"
theorem sh_other {gs : List (List Eqn)} {known : List Eqn} {row : PyData} (h2 : ∀ h a, row ≠ .tuple [.str h, a]) (h3 : ∀ h a b, row ≠ .tuple [.str h, a, b]) : shownF gs known row = none := by
  unfold shownF
  split
  · exact absurd rfl (h2 _ _)
  · exact absurd rfl (h3 _ _ _)
  · rfl
theorem e_shown_by {n : Nat} {gs : List (List Eqn)} {known : List Eqn} {row : PyData} (hk : ∀ e ∈ known, EqOk e) :
    NV.call pg (n + 3) "shown_by" [.dat (grD gs), .own true (known.map pr), .dat row] = .ok (.dat (enc (shownF gs known row))) [.dat (grD gs), .own true (known.map pr), .dat row] := by
  refine ok_of (W_call (np := 3) (nl := 5) lk_shown_by rfl ?_)
  show W (exB pg (NV.call pg (n + 2)) fn_shown_by.body [.dat (grD gs), .own true (known.map pr), .dat row, .no, .no]) _ _
  by_cases h2 : ∃ h a, row = .tuple [.str h, a]
  · obtain ⟨h, a, rfl⟩ := h2
    exact sb_2 hk
  · by_cases h3 : ∃ h a b, row = .tuple [.str h, a, b]
    · obtain ⟨h, a, b, rfl⟩ := h3
      exact sb_3 hk
    · have h2' : ∀ h a, row ≠ .tuple [.str h, a] := fun h a e => h2 ⟨h, a, e⟩
      have h3' : ∀ h a b, row ≠ .tuple [.str h, a, b] := fun h a b e => h3 ⟨h, a, b, e⟩
      rw [sh_other h2' h3']
      exact sb_other hk h2' h3'
/-! ### the law's own look -/
theorem e_two2 {n : Nat} {known : List Eqn} {h : Str} {i : Nat} {q : Eqn} (hq : known[i]? = some q) :
    NV.call pg (n + 2) "_law_two" [.own true (known.map pr), .dat (.tuple [.str h, .int i])] = .ok (.dat (enc (if h = "turned" then some (swapE q) else none))) [.own true (known.map pr), .dat (.tuple [.str h, .int i])] := by
  refine ok_of (W_call (np := 2) (nl := 4) lk_L_two rfl ?_)
  show W (exB pg (NV.call pg (n + 1)) (_ :: _) [.own true (known.map pr), .dat (.tuple [.str h, .int i]), .no, .no]) _ _
  have aq : L2.atI (known.map pr) (i : Int) = some (.tuple [q.1, q.2]) := at_map (f := pr) hq
  by_cases ht : h = "turned"
  · rw [if_pos ht]
    have ht' := sq_t ht
    clear ht
    walk_at "run"
  · have ht' := sq_f ht
    rw [if_neg ht]
    clear ht
    walk_at "run"
theorem e_two3 {n : Nat} {known : List Eqn} {h : Str} {b : PyData} {i : Nat} {q : Eqn} (hk : ∀ e ∈ known, EqOk e) (hq : known[i]? = some q) :
    NV.call pg (n + 2) "_law_two" [.own true (known.map pr), .dat (.tuple [.str h, .int i, b])] = .ok (.dat (enc (if h = "turned" then none else if h = "joined" then joinF known q b else if h = "part" then partF q b else none))) [.own true (known.map pr), .dat (.tuple [.str h, .int i, b])] := by
  refine ok_of (W_call (np := 2) (nl := 4) lk_L_two rfl ?_)
  show W (exB pg (NV.call pg (n + 1)) (_ :: _) [.own true (known.map pr), .dat (.tuple [.str h, .int i, b]), .no, .no]) _ _
  have aq : L2.atI (known.map pr) (i : Int) = some (.tuple [q.1, q.2]) := at_map (f := pr) hq
  have hm : q ∈ known := List.mem_of_getElem? hq
  by_cases ht : h = "turned"
  · rw [if_pos ht]
    have hj' : sq h "joined" = false := sq_f (by rw [ht]; decide +kernel)
    have hp' : sq h "part" = false := sq_f (by rw [ht]; decide +kernel)
    clear ht
    walk_at "run"
  · rw [if_neg ht]
    clear ht
    by_cases hj : h = "joined"
    · rw [if_pos hj]
      have hj' := sq_t hj
      have hp' : sq h "part" = false := sq_f (by rw [hj]; decide +kernel)
      clear hj
      cases hb : inR b known.length with
      | none =>
        have e : joinF known q b = none := by unfold joinF; rw [hb]; rfl
        rw [e]
        walk_at "run"
      | some j =>
        obtain ⟨rfl, hjl⟩ := inR_some hb
        obtain ⟨q2, hq2, hm2⟩ := get_of hjl
        have aq2 : L2.atI (known.map pr) (j : Int) = some (.tuple [q2.1, q2.2]) := at_map (f := pr) hq2
        have heq := eq_of (hk q2 hm2).1.sm (hk q hm).2.sm
        cases hv : PyData.eqv q2.1 q.2 with
        | true =>
          have e : joinF known q (.int j) = some (q.1, q2.2) := by unfold joinF; rw [hb, Option.bind_some, hq2, Option.bind_some, if_pos hv]
          rw [e]
          rw [hv] at heq
          walk_at "run"
        | false =>
          have e : joinF known q (.int j) = none := by unfold joinF; rw [hb, Option.bind_some, hq2, Option.bind_some, if_neg (by rw [hv]; decide)]
          rw [e]
          rw [hv] at heq
          walk_at "run"
    · have hj' := sq_f hj
      rw [if_neg hj]
      clear hj
      by_cases hp : h = "part"
      · rw [if_pos hp]
        have hp' := sq_t hp
        clear hp
        have ral := fun ρ => r_tuples (n := n) (ρ := ρ) (hk q hm).1 (hk q hm).2
        cases hal : alike q.1 q.2 with
        | false =>
          rw [part_none hal]
          walk_at "run"
        | true =>
          obtain ⟨x, ds, es, e1, e2, hlen⟩ := alike_true hal
          rw [e1, e2] at ral hal aq
          cases hb : inR b ds.length with
          | none =>
            rw [part_out e1 e2 hlen hb]
            clear hlen
            walk_at "run"
          | some j =>
            obtain ⟨rfl, hjl⟩ := inR_some hb
            obtain ⟨p, hp1, _⟩ := get_of hjl
            obtain ⟨p2, hp2, _⟩ := get_of (l := es) (j := j) (by omega)
            have a1 := at_succ' (c := PyData.str x) hp1
            have a2 := at_succ' (c := PyData.str x) hp2
            rw [part_in e1 e2 hlen hb hp1 hp2]
            clear hlen
            walk_at "run"
      · have hp' := sq_f hp
        rw [if_neg hp]
        clear hp
        walk_at "run"
end K18
set_option maxHeartbeats 8000000
namespace K18
open PySem NV LW
/-! ### the exceptions -/
theorem mk_bad {d : PyData} : mkExc pg.cls "BadChain" [d] = some ⟨"BadChain", [("index", d)]⟩ := by rfl
theorem cat_bad {fs : List (Str × PyData)} : catches pg.cls ⟨"BadChain", fs⟩ "LangError" = some true := by rfl
theorem isx_1 {s0 s1 : SV} {fs : List (Str × PyData)} : isxR pg.cls 2 ["BadChain"] [s0, s1, .exn ⟨"BadChain", fs⟩] = .ok (.dat (.bool true)) [s0, s1, .exn ⟨"BadChain", fs⟩] := by rfl
theorem isx_2 {s0 s1 : SV} {fs : List (Str × PyData)} : isxR pg.cls 2 ["NoSolution"] [s0, s1, .exn ⟨"BadChain", fs⟩] = .ok (.dat (.bool false)) [s0, s1, .exn ⟨"BadChain", fs⟩] := by rfl
theorem atr_1 {s0 s1 : SV} {d : PyData} : atrR pg.cls 2 "index" [s0, s1, .exn ⟨"BadChain", [("index", d)]⟩] = .ok (.dat d) [s0, s1, .exn ⟨"BadChain", [("index", d)]⟩] := by rfl
local macro_rules | `(tactic| walk_at "ew") => `(tactic| simp (config := { dsimp := false }) only [*, r_num, r_lnum, r_var, isNum_eq, r_given, r_given2, sub1, enc_n, enc_s, swap_1, swap_2, in_0, in_1, in_2, in_3, in_4, mk_bad, cat_bad, isx_1, isx_2, atr_1, List.length_map, Option.isSome_none, Option.isSome_some, W_ok, W_exc, W_bad, ↓W_bind, ↓W_seq, seqQ_nx, seqQ_rt, seqQ_bk, seqQ_ct, W_chk, W_grd, W_opi, W_nox, W_cond, bind_ok, bind_exc, bind_bad, nox_ok, nox_bad, rc_t, rc_f, chk_true, chk_false, opt_some, opt_none, seq_nx, seq_rt, seq_bk, seq_ct, seq_exc, evN, evs, eva, evb, evo, evc, evp, exS, exB, esc, sto, stos, stoP, tgs, keepR, fzR, asBool, asOptInt, isiR, mthR, isMut, mutOk, mutR, mutF, NV.putF, NV.data, NV.data1, NV.dataS, NV.dataB, NV.dataR, NV.dat?, SV.data, SV.data1, NV.fz, isLstS, isDicS, bopF, copF, sq_self, eqF_ss, eqF_ii, eqF_bb, eqF_ln, eqF_tn, neF_ss, neF_ii, neF_bb, neF_ln, isN, idxF_t, idxF_l, atF, slcF, revF, biF, itF, isBor, items, iterF, avOf, isAv, List.map_cons, List.map_nil, List.all_cons, List.all_nil, List.getElem?_cons_zero, List.getElem?_cons_succ, List.set_cons_zero, List.set_cons_succ, Option.bind_some, Option.map_some, List.any_cons, List.any_nil, DW.isLst, tyIs, DW.isInt, DW.isBool, DW.isStr, DW.isTup, Bool.not_true, Bool.not_false, Bool.or_false, Bool.or_true, Bool.true_or, Bool.false_or, Bool.and_true, Bool.true_and, Bool.and_false, Bool.false_and, true_and, and_true, Tg.slots, tryR, retR, List.take_succ_cons, List.take_zero, List.length_cons, List.length_nil, List.append_nil, List.cons_append, List.nil_append, ixN0, ixN1, ixN2, forQ_nx, forQ_ct, forQ_bk, forQ_rt, whQ_nx, whQ_ct, whQ_bk, whQ_rt, atI0, atI1, atI2, atI3, forall_const, Bool.false_eq_true, false_and, and_false, not_false_eq_true, reduceCtorEq, false_implies, true_implies, eq_self_iff_true, Bool.true_eq_false, Nat.reduceAdd, Nat.zero_add, cn0, cn1, cn2, cn3, cn4, cn5, cn6, cn7, cn8, cn9, cn10, Int.reduceEq, Int.reduceLT, Int.reduceLE, Int.reduceSub, Int.reduceAdd, decide_true, decide_false])
local macro_rules | `(tactic| walk_at "st") => `(tactic| (refine W_st fun Q' hq => ?_; walk_at "ew"; (try simp only [hq.nx, hq.rt, hq.bk, hq.ct]); (try clear hq Q')))
local macro_rules | `(tactic| walk_at "run") => `(tactic| ((repeat walk_at "st"); (try walk_at "ew")))
theorem r_two2 {n : Nat} {known : List Eqn} {i : Nat} {q : Eqn} (hq : known[i]? = some q) : ∀ {h : Str} {c : Bool} {s0 : SV} {rest : Rho}, callR (NV.call pg (n + 2)) "_law_two" [.ali 1, .dat (.tuple [.str h, .int i])] (s0 :: .own c (known.map pr) :: rest) = .ok (.dat (enc (if h = "turned" then some (swapE q) else none))) (s0 :: .own c (known.map pr) :: rest) := fun {h c s0 rest} => by
  unfold callR
  show R.chk _ (match NV.call pg (n + 2) "_law_two" [.own true (known.map pr), .dat (.tuple [.str h, .int i])] with | .ok v fin => .ok v (wback [.ali 1, .dat (.tuple [.str h, .int i])] fin (s0 :: .own c (known.map pr) :: rest)) | .exc x fin => .exc x (wback [.ali 1, .dat (.tuple [.str h, .int i])] fin (s0 :: .own c (known.map pr) :: rest)) | .bad => .bad) = _
  rw [e_two2 hq]
  rfl
theorem r_two3 {n : Nat} {known : List Eqn} {i : Nat} {q : Eqn} (hk : ∀ e ∈ known, EqOk e) (hq : known[i]? = some q) : ∀ {h : Str} {b : PyData} {c : Bool} {s0 : SV} {rest : Rho}, callR (NV.call pg (n + 2)) "_law_two" [.ali 1, .dat (.tuple [.str h, .int i, b])] (s0 :: .own c (known.map pr) :: rest) = .ok (.dat (enc (if h = "turned" then none else if h = "joined" then joinF known q b else if h = "part" then partF q b else none))) (s0 :: .own c (known.map pr) :: rest) := fun {h b c s0 rest} => by
  unfold callR
  show R.chk _ (match NV.call pg (n + 2) "_law_two" [.own true (known.map pr), .dat (.tuple [.str h, .int i, b])] with | .ok v fin => .ok v (wback [.ali 1, .dat (.tuple [.str h, .int i, b])] fin (s0 :: .own c (known.map pr) :: rest)) | .exc x fin => .exc x (wback [.ali 1, .dat (.tuple [.str h, .int i, b])] fin (s0 :: .own c (known.map pr) :: rest)) | .bad => .bad) = _
  rw [e_two3 hk hq]
  rfl
theorem e_L_shown {n : Nat} {gs : List (List Eqn)} {known : List Eqn} {row : PyData} (hk : ∀ e ∈ known, EqOk e) :
    NV.call pg (n + 3) "_law_shown" [.dat (grD gs), .own true (known.map pr), .dat row] = .ok (.dat (enc (shownF gs known row))) [.dat (grD gs), .own true (known.map pr), .dat row] := by
  refine ok_of (W_call (np := 3) (nl := 3) lk_L_shown rfl ?_)
  by_cases h2 : ∃ h a, row = .tuple [.str h, a]
  · obtain ⟨h, a, rfl⟩ := h2
    show W (exB pg (NV.call pg (n + 2)) (_ :: _) [.dat (grD gs), .own true (known.map pr), .dat (.tuple [.str h, a])]) _ _
    by_cases hg : h = "given"
    · rw [sh2_given hg]
      have hg' := sq_t hg
      clear hg
      walk_at "run"
    · have hg' := sq_f hg
      cases ha : inR a known.length with
      | none =>
        rw [sh2_none hg ha]
        clear hg
        walk_at "run"
      | some i =>
        obtain ⟨rfl, hi⟩ := inR_some ha
        obtain ⟨q, hq, hm⟩ := get_of hi
        rw [sh2_some hg ha hq]
        clear hg
        have rt := @r_two2 n known i q hq
        walk_at "run"
  · by_cases h3 : ∃ h a b, row = .tuple [.str h, a, b]
    · clear h2
      obtain ⟨h, a, b, rfl⟩ := h3
      by_cases hg : h = "given"
      · rw [sh3_given hg]
        have hg' := sq_t hg
        clear hg
        show W (exB pg (NV.call pg (n + 2)) (_ :: _) [.dat (.tuple (gs.map fun g => .tuple (g.map pr))), .own true (known.map pr), .dat (.tuple [.str h, a, b])]) _ _
        have eg : grD gs = .tuple (gs.map fun g => .tuple (g.map pr)) := rfl
        rw [eg]
        cases ha : inR a gs.length with
        | none =>
          have e : givF gs a b = none := by unfold givF; rw [ha]; rfl
          rw [e]
          clear eg
          walk_at "run"
        | some i =>
          obtain ⟨rfl, hi⟩ := inR_some ha
          obtain ⟨g, hg, _⟩ := get_of hi
          have ag := at_map (f := fun g => PyData.tuple (g.map pr)) hg
          cases hb : inR b g.length with
          | none =>
            have e : givF gs (.int i) b = none := by unfold givF; rw [ha, Option.bind_some, hg, Option.bind_some, hb]; rfl
            rw [e]
            clear eg
            walk_at "run"
          | some j =>
            obtain ⟨rfl, hj⟩ := inR_some hb
            obtain ⟨q, hq, _⟩ := get_of hj
            have aq := at_map (f := pr) hq
            have e : givF gs (.int i) (.int j) = some q := by unfold givF; rw [ha, Option.bind_some, hg, Option.bind_some, hb, Option.bind_some, hq]
            rw [e]
            clear eg
            walk_at "run"
            rfl
      · show W (exB pg (NV.call pg (n + 2)) (_ :: _) [.dat (grD gs), .own true (known.map pr), .dat (.tuple [.str h, a, b])]) _ _
        have hg' := sq_f hg
        cases ha : inR a known.length with
        | none =>
          rw [sh3_none hg ha]
          clear hg
          walk_at "run"
        | some i =>
          obtain ⟨rfl, hi⟩ := inR_some ha
          obtain ⟨q, hq, hm⟩ := get_of hi
          rw [sh3_some hg ha hq]
          clear hg
          have rt := @r_two3 n known i q hk hq
          walk_at "run"
    · have h2' : ∀ h a, row ≠ .tuple [.str h, a] := fun h a e => h2 ⟨h, a, e⟩
      have h3' : ∀ h a b, row ≠ .tuple [.str h, a, b] := fun h a b e => h3 ⟨h, a, b, e⟩
      rw [sh_other h2' h3']
      clear h2 h3
      show W (exB pg (NV.call pg (n + 2)) (_ :: _) [.dat (grD gs), .own true (known.map pr), .dat row]) _ _
      cases row with
      | tuple ds =>
        match ds with
        | [] => clear h2' h3'; walk_at "run"
        | [a] => clear h2' h3'; walk_at "run"
        | a :: b :: c :: d :: r => clear h2' h3'; walk_at "run"
        | [a, b] => cases a <;> first | exact absurd rfl (h2' _ _) | (clear h2' h3'; walk_at "run")
        | [a, b, c] => cases a <;> first | exact absurd rfl (h3' _ _ _) | (clear h2' h3'; walk_at "run")
      | _ => clear h2' h3'; walk_at "run"
end K18
set_option maxHeartbeats 8000000
namespace K18
open PySem NV LW
local macro_rules | `(tactic| walk_at "ew") => `(tactic| simp (config := { dsimp := false }) only [*, r_num, r_lnum, r_var, isNum_eq, r_given, r_given2, sub1, enc_n, enc_s, swap_1, swap_2, in_0, in_1, in_2, in_3, in_4, mk_bad, cat_bad, isx_1, isx_2, atr_1, List.length_map, Option.isSome_none, Option.isSome_some, W_ok, W_exc, W_bad, ↓W_bind, ↓W_seq, seqQ_nx, seqQ_rt, seqQ_bk, seqQ_ct, W_chk, W_grd, W_opi, W_nox, W_cond, bind_ok, bind_exc, bind_bad, nox_ok, nox_bad, rc_t, rc_f, chk_true, chk_false, opt_some, opt_none, seq_nx, seq_rt, seq_bk, seq_ct, seq_exc, evN, evs, eva, evb, evo, evc, evp, exS, exB, esc, sto, stos, stoP, tgs, keepR, fzR, asBool, asOptInt, isiR, mthR, isMut, mutOk, mutR, mutF, NV.putF, NV.data, NV.data1, NV.dataS, NV.dataB, NV.dataR, NV.dat?, SV.data, SV.data1, NV.fz, isLstS, isDicS, bopF, copF, sq_self, eqF_ss, eqF_ii, eqF_bb, eqF_ln, eqF_tn, neF_ss, neF_ii, neF_bb, neF_ln, isN, idxF_t, idxF_l, atF, slcF, revF, biF, itF, isBor, items, iterF, avOf, isAv, List.map_cons, List.map_nil, List.all_cons, List.all_nil, List.getElem?_cons_zero, List.getElem?_cons_succ, List.set_cons_zero, List.set_cons_succ, Option.bind_some, Option.map_some, List.any_cons, List.any_nil, DW.isLst, tyIs, DW.isInt, DW.isBool, DW.isStr, DW.isTup, Bool.not_true, Bool.not_false, Bool.or_false, Bool.or_true, Bool.true_or, Bool.false_or, Bool.and_true, Bool.true_and, Bool.and_false, Bool.false_and, true_and, and_true, Tg.slots, tryR, retR, List.take_succ_cons, List.take_zero, List.length_cons, List.length_nil, List.append_nil, List.cons_append, List.nil_append, ixN0, ixN1, ixN2, forQ_nx, forQ_ct, forQ_bk, forQ_rt, whQ_nx, whQ_ct, whQ_bk, whQ_rt, atI0, atI1, atI2, atI3, forall_const, Bool.false_eq_true, false_and, and_false, not_false_eq_true, reduceCtorEq, false_implies, true_implies, eq_self_iff_true, Bool.true_eq_false, Nat.reduceAdd, Nat.zero_add, cn0, cn1, cn2, cn3, cn4, cn5, cn6, cn7, cn8, cn9, cn10, Int.reduceEq, Int.reduceLT, Int.reduceLE, Int.reduceSub, Int.reduceAdd, decide_true, decide_false])
local macro_rules | `(tactic| walk_at "st") => `(tactic| (refine W_st fun Q' hq => ?_; walk_at "ew"; (try simp only [hq.nx, hq.rt, hq.bk, hq.ct]); (try clear hq Q')))
local macro_rules | `(tactic| walk_at "run") => `(tactic| ((repeat walk_at "st"); (try walk_at "ew")))
local macro_rules | `(tactic| walk_at "ev0") => `(tactic| simp (config := { dsimp := false }) only [W_ok, W_exc, W_bad, ↓W_bind, ↓W_seq, seqQ_nx, seqQ_rt, seqQ_bk, seqQ_ct, W_chk, W_grd, W_opi, W_nox, W_cond, bind_ok, bind_exc, bind_bad, nox_ok, nox_bad, rc_t, rc_f, chk_true, chk_false, opt_some, opt_none, seq_nx, seq_rt, seq_bk, seq_ct, seq_exc, evN, evs, eva, evb, evo, evc, evp, exS, exB, esc, sto, stos, stoP, tgs, keepR, fzR, asBool, asOptInt, isiR, isxR, atrR, mthR, isMut, mutOk, mutR, mutF, NV.putF, NV.data, NV.data1, NV.dataS, NV.dataB, NV.dataR, NV.dat?, SV.data, SV.data1, NV.fz, isLstS, isDicS, bopF, copF, sq_self, eqF_ss, eqF_ii, eqF_bb, eqF_ln, eqF_tn, neF_ss, neF_ii, neF_bb, neF_ln, isN, idxF_t, idxF_l, atF, slcF, revF, biF, itF, isBor, items, iterF, avOf, isAv, List.map_cons, List.map_nil, List.all_cons, List.all_nil, List.getElem?_cons_zero, List.getElem?_cons_succ, List.set_cons_zero, List.set_cons_succ, Option.bind_some, Option.map_some, List.any_cons, List.any_nil, DW.isLst, tyIs, DW.isInt, DW.isBool, DW.isStr, DW.isTup, Bool.not_true, Bool.not_false, Bool.or_false, Bool.or_true, Bool.true_or, Bool.false_or, Bool.and_true, Bool.true_and, Bool.and_false, Bool.false_and, true_and, and_true, Tg.slots, mkExc, catches, tryR, retR, List.take_succ_cons, List.take_zero, List.length_cons, List.length_nil, List.append_nil, List.cons_append, List.nil_append, ixN0, ixN1, ixN2, forQ_nx, forQ_ct, forQ_bk, forQ_rt, whQ_nx, whQ_ct, whQ_bk, whQ_rt, atI0, atI1, atI2, atI3, forall_const, Bool.false_eq_true, false_and, and_false, not_false_eq_true, reduceCtorEq, false_implies, true_implies, eq_self_iff_true, Bool.true_eq_false, Nat.reduceAdd, Nat.zero_add, cn0, cn1, cn2, cn3, cn4, cn5, cn6, cn7, cn8, cn9, cn10, Int.reduceEq, Int.reduceLT, Int.reduceLE, Int.reduceSub, Int.reduceAdd, decide_true, decide_false])
local macro_rules | `(tactic| walk_at "ev1") => `(tactic| simp (config := { dsimp := false }) only [*, tgs, stos, sto, R.bind, bind_ok, W_bind, W_chk, Bool.not_false, true_and, chk_true, List.getElem?_cons_zero, List.getElem?_cons_succ, List.set_cons_zero, List.set_cons_succ, List.length_cons, List.length_nil, Nat.reduceAdd])
/-! ### what is shown is an equation of shapes -/
theorem giv_ok {gs : List (List Eqn)} {a b : PyData} {e : Eqn} (hg : ∀ g ∈ gs, ∀ e ∈ g, EqOk e) (h : givF gs a b = some e) : EqOk e := by
  unfold givF at h
  obtain ⟨i, _, h⟩ := Option.bind_eq_some_iff.mp h
  obtain ⟨g, h1, h⟩ := Option.bind_eq_some_iff.mp h
  obtain ⟨j, _, h⟩ := Option.bind_eq_some_iff.mp h
  exact hg g (List.mem_of_getElem? h1) e (List.mem_of_getElem? h)
theorem join_ok {known : List Eqn} {q e : Eqn} {b : PyData} (hk : ∀ e ∈ known, EqOk e) (hq : EqOk q) (h : joinF known q b = some e) : EqOk e := by
  unfold joinF at h
  obtain ⟨i, _, h⟩ := Option.bind_eq_some_iff.mp h
  obtain ⟨g, h1, h⟩ := Option.bind_eq_some_iff.mp h
  split at h
  · cases h
    exact ⟨hq.1, (hk g (List.mem_of_getElem? h1)).2⟩
  · cases h
theorem shp_mem {n : Nat} {x : Str} {ds : List PyData} (h : Shp n (.tuple (.str x :: ds))) : ∀ d ∈ ds, Shp n d := by
  cases h with
  | tup _ _ h => exact fun d hd => (h d hd).mono (Nat.le_succ _)
theorem part_ok {q e : Eqn} {b : PyData} (hq : EqOk q) (h : partF q b = some e) : EqOk e := by
  unfold partF at h
  split at h
  · rename_i x ds y es e1 e2
    split at h
    · obtain ⟨i, _, h⟩ := Option.bind_eq_some_iff.mp h
      obtain ⟨g, h1, h⟩ := Option.bind_eq_some_iff.mp h
      obtain ⟨g2, h2, h⟩ := Option.map_eq_some_iff.mp h
      cases h
      have q1 := hq.1
      have q2 := hq.2
      rw [e1] at q1
      rw [e2] at q2
      exact ⟨shp_mem q1 _ (List.mem_of_getElem? h1), shp_mem q2 _ (List.mem_of_getElem? h2)⟩
    · cases h
  · cases h
theorem shown_ok {gs : List (List Eqn)} {known : List Eqn} {row : PyData} {e : Eqn} (hg : ∀ g ∈ gs, ∀ e ∈ g, EqOk e) (hk : ∀ e ∈ known, EqOk e) (h : shownF gs known row = some e) : EqOk e := by
  unfold shownF at h
  split at h
  · split at h
    · cases h
    · obtain ⟨i, _, h⟩ := Option.bind_eq_some_iff.mp h
      split at h
      · obtain ⟨g, h1, h⟩ := Option.map_eq_some_iff.mp h
        cases h
        have := hk g (List.mem_of_getElem? h1)
        exact ⟨this.2, this.1⟩
      · cases h
  · split at h
    · exact giv_ok hg h
    · obtain ⟨i, _, h⟩ := Option.bind_eq_some_iff.mp h
      obtain ⟨q, h1, h⟩ := Option.bind_eq_some_iff.mp h
      have hq := hk q (List.mem_of_getElem? h1)
      split at h
      · cases h
      · split at h
        · exact join_ok hk hq h
        · split at h
          · exact part_ok hq h
          · cases h
  · cases h
theorem r_shown {n : Nat} {gs : List (List Eqn)} {known : List Eqn} (hk : ∀ e ∈ known, EqOk e) : ∀ {row : PyData} {c : Bool} {s0 s1 : SV} {rest : Rho}, callR (NV.call pg (n + 3)) "shown_by" [.dat (grD gs), .ali 2, .dat row] (s0 :: s1 :: .own c (known.map pr) :: rest) = .ok (.dat (enc (shownF gs known row))) (s0 :: s1 :: .own c (known.map pr) :: rest) := fun {row c s0 s1 rest} => by
  unfold callR
  show R.chk _ (match NV.call pg (n + 3) "shown_by" [.dat (grD gs), .own true (known.map pr), .dat row] with | .ok v fin => .ok v (wback [.dat (grD gs), .ali 2, .dat row] fin (s0 :: s1 :: .own c (known.map pr) :: rest)) | .exc x fin => .exc x (wback [.dat (grD gs), .ali 2, .dat row] fin (s0 :: s1 :: .own c (known.map pr) :: rest)) | .bad => .bad) = _
  rw [e_shown_by hk]
  rfl
theorem r_Lshown {n : Nat} {gs : List (List Eqn)} {known : List Eqn} (hk : ∀ e ∈ known, EqOk e) : ∀ {row : PyData} {c : Bool} {s0 s1 : SV} {rest : Rho}, callR (NV.call pg (n + 3)) "_law_shown" [.dat (grD gs), .ali 2, .dat row] (s0 :: s1 :: .own c (known.map pr) :: rest) = .ok (.dat (enc (shownF gs known row))) (s0 :: s1 :: .own c (known.map pr) :: rest) := fun {row c s0 s1 rest} => by
  unfold callR
  show R.chk _ (match NV.call pg (n + 3) "_law_shown" [.dat (grD gs), .own true (known.map pr), .dat row] with | .ok v fin => .ok v (wback [.dat (grD gs), .ali 2, .dat row] fin (s0 :: s1 :: .own c (known.map pr) :: rest)) | .exc x fin => .exc x (wback [.dat (grD gs), .ali 2, .dat row] fin (s0 :: s1 :: .own c (known.map pr) :: rest)) | .bad => .bad) = _
  rw [e_L_shown hk]
  rfl
theorem r_Lshown3 {n : Nat} {gs : List (List Eqn)} {known : List Eqn} (hk : ∀ e ∈ known, EqOk e) : ∀ {row : PyData} {c : Bool} {s0 s1 s2 : SV} {rest : Rho}, callR (NV.call pg (n + 3)) "_law_shown" [.dat (grD gs), .ali 3, .dat row] (s0 :: s1 :: s2 :: .own c (known.map pr) :: rest) = .ok (.dat (enc (shownF gs known row))) (s0 :: s1 :: s2 :: .own c (known.map pr) :: rest) := fun {row c s0 s1 s2 rest} => by
  unfold callR
  show R.chk _ (match NV.call pg (n + 3) "_law_shown" [.dat (grD gs), .own true (known.map pr), .dat row] with | .ok v fin => .ok v (wback [.dat (grD gs), .ali 3, .dat row] fin (s0 :: s1 :: s2 :: .own c (known.map pr) :: rest)) | .exc x fin => .exc x (wback [.dat (grD gs), .ali 3, .dat row] fin (s0 :: s1 :: s2 :: .own c (known.map pr) :: rest)) | .bad => .bad) = _
  rw [e_L_shown hk]
  rfl
/-! ### a chain's answer -/
def goF (gs : List (List Eqn)) : List Eqn → Int → List PyData → Sum (List Eqn) Int
  | known, _, [] => .inl known
  | known, i, r :: rs =>
    match shownF gs known r with
    | none => .inr i
    | some e => goF gs (known ++ [e]) (i + 1) rs
def endF : Sum (List Eqn) Int → PyData
  | .inl k => .tuple (k.map pr)
  | .inr i => .list [.int i]
def ansF (gs : List (List Eqn)) (v : PyData) : PyData :=
  match v with
  | .tuple rows => endF (goF gs [] 0 rows)
  | _ => .list [.none]
theorem go_none {gs : List (List Eqn)} {known : List Eqn} {i : Int} {r : PyData} {rs : List PyData} (h : shownF gs known r = none) : goF gs known i (r :: rs) = .inr i := by
  rw [goF, h]
theorem go_some {gs : List (List Eqn)} {known : List Eqn} {i : Int} {r : PyData} {rs : List PyData} {e : Eqn} (h : shownF gs known r = some e) : goF gs known i (r :: rs) = goF gs (known ++ [e]) (i + 1) rs := by
  rw [goF, h]
theorem map_pr {known : List Eqn} {e : Eqn} : known.map pr ++ [.tuple [e.1, e.2]] = (known ++ [e]).map pr := by rw [List.map_append]; rfl
/-- the slots of a loop -/
def Sl (s : SV) : Prop := s = .no ∨ ∃ d, s = .dat d
theorem Sl.bor {s : SV} (h : Sl s) : isBor (some s) = false := by
  rcases h with rfl | ⟨d, rfl⟩ <;> rfl
def Inv (gs : List (List Eqn)) (rows : List PyData) (rest : List PyData) (ρ : Rho) : Prop :=
  ∃ (known : List Eqn) (i : Int) (rows' : List PyData) (s3 s4 s5 : SV), ρ = [.dat (grD gs), .dat (.tuple rows), .own false (known.map pr), s3, s4, s5] ∧ rest = numbered i rows' ∧ (∀ e ∈ known, EqOk e) ∧ goF gs known i rows' = goF gs [] 0 rows ∧ known.length + rows'.length = rows.length ∧ Sl s3 ∧ Sl s4 ∧ Sl s5
theorem inv_nx {gs : List (List Eqn)} {rows rest rows' : List PyData} {known : List Eqn} {i : Int} {r a b c : PyData} {e : Eqn} (hg : ∀ g ∈ gs, ∀ e ∈ g, EqOk e) (hk : ∀ e ∈ known, EqOk e) (h : shownF gs known r = some e) (hr : rest = numbered (i + 1) rows') (hgo : goF gs known i (r :: rows') = goF gs [] 0 rows) (hl : known.length + (rows'.length + 1) = rows.length) :
    Inv gs rows rest [.dat (grD gs), .dat (.tuple rows), .own false (known.map pr ++ [.tuple [e.1, e.2]]), .dat a, .dat b, .dat c] := by
  rw [map_pr]
  refine ⟨known ++ [e], i + 1, rows', _, _, _, rfl, hr, fun x hx => ?_, by rw [← hgo, go_some h], by rw [List.length_append]; simp only [List.length_cons, List.length_nil]; omega, .inr ⟨_, rfl⟩, .inr ⟨_, rfl⟩, .inr ⟨_, rfl⟩⟩
  rcases List.mem_append.mp hx with hx | hx
  · exact hk x hx
  · cases List.mem_singleton.mp hx
    exact shown_ok hg hk h
theorem w_chain_shows {n : Nat} {gs : List (List Eqn)} {v : PyData} (hg : ∀ g ∈ gs, ∀ e ∈ g, EqOk e) (hv : ∀ rows, v = .tuple rows → rows.length ≤ 100) :
    W (NV.call pg (n + 4) "chain_shows" [.dat (grD gs), .dat v]) (fun nv fin => nv = .dat (ansF gs v) ∧ fin = [.dat (grD gs), .dat v]) (fun x fin => fin = [.dat (grD gs), .dat v] ∧ ∃ d, x = ⟨"BadChain", [("index", d)]⟩ ∧ ansF gs v = .list [d]) := by
  refine W_call (np := 2) (nl := 6) lk_chain_shows rfl ?_
  show W (exB pg (NV.call pg (n + 3)) (_ :: _) [.dat (grD gs), .dat v, .no, .no, .no, .no]) _ _
  cases v with
  | tuple rows =>
    have hv := hv rows rfl
    have ha : ansF gs (.tuple rows) = endF (goF gs [] 0 rows) := rfl
    rw [ha]
    clear ha
    walk_at "st"
    walk_at "st"
    refine W_st fun Q' hq => ?_
    walk_at "ev0"
    refine W_for (Inv gs rows) ⟨[], 0, rows, _, _, _, rfl, rfl, fun _ h => (nomatch h), rfl, by simp, .inl rfl, .inl rfl, .inl rfl⟩ (fun d rest ρ hI => ?_) (fun ρ hI => ?_)
    · obtain ⟨known, i, rows', s3, s4, s5, rfl, hr, hk, hgo, hl, h3, h4, h5⟩ := hI
      cases rows' with
      | nil => cases hr
      | cons r rows' =>
        injection hr with e1 e2
        subst e1
        have b3 := h3.bor
        have b4 := h4.bor
        have hl : known.length + (rows'.length + 1) = rows.length := hl
        have hn : known.length < sizeLine := by unfold sizeLine; omega
        have rs := @r_shown n gs known hk
        cases hs : shownF gs known r with
        | none =>
          rw [go_none hs] at hgo
          rw [← hgo]
          clear hgo hq h3 h4 e2 hl hv
          rcases h5 with rfl | ⟨d, rfl⟩
          all_goals
            walk_at "ev1"
            walk_at "run"
            exact ⟨_, rfl, rfl⟩
        | some e =>
          have key := @inv_nx gs rows rest rows' known i r
          have k2 : ∀ {a b c : PyData}, Inv gs rows rest _ := fun {a b c} => key (a := a) (b := b) (c := c) hg hk hs e2 hgo hl
          clear h3 h4 key hgo hq e2 hk hg hl hv
          rcases h5 with rfl | ⟨d, rfl⟩
          all_goals
            walk_at "ev1"
            walk_at "run"
    · obtain ⟨known, i, rows', s3, s4, s5, rfl, hr, hk, hgo, hl, h3, h4, h5⟩ := hI
      cases rows' with
      | cons => cases hr
      | nil =>
        rw [hq.nx, ← hgo]
        clear hgo hq h3 h4 h5 hr hl hv
        walk_at "run"
        rfl
  | _ => walk_at "run"; exact ⟨_, rfl, rfl⟩
/-- data, or a new list of it -/
def As (nv : NV) (d : PyData) : Prop := nv = .dat d ∨ ∃ xs, nv = .lst xs ∧ d = .list xs
theorem As.d {d : PyData} : As (.dat d) d := .inl rfl
theorem As.l {xs : List PyData} : As (.lst xs) (.list xs) := .inr ⟨_, rfl, rfl⟩
theorem w_L_due {n : Nat} {gs : List (List Eqn)} {v : PyData} (hg : ∀ g ∈ gs, ∀ e ∈ g, EqOk e) (hv : ∀ rows, v = .tuple rows → rows.length ≤ 100) :
    W (NV.call pg (n + 4) "_law_due" [.dat (grD gs), .dat v]) (fun nv fin => As nv (ansF gs v) ∧ fin = [.dat (grD gs), .dat v]) (fun _ _ => False) := by
  refine W_call (np := 2) (nl := 6) lk_L_due rfl ?_
  show W (exB pg (NV.call pg (n + 3)) (_ :: _) [.dat (grD gs), .dat v, .no, .no, .no, .no]) _ _
  cases v with
  | tuple rows =>
    have hv := hv rows rfl
    have ha : ansF gs (.tuple rows) = endF (goF gs [] 0 rows) := rfl
    rw [ha]
    clear ha
    walk_at "st"
    walk_at "st"
    refine W_st fun Q' hq => ?_
    walk_at "ev0"
    refine W_for (Inv gs rows) ⟨[], 0, rows, _, _, _, rfl, rfl, fun _ h => (nomatch h), rfl, by simp, .inl rfl, .inl rfl, .inl rfl⟩ (fun d rest ρ hI => ?_) (fun ρ hI => ?_)
    · obtain ⟨known, i, rows', s3, s4, s5, rfl, hr, hk, hgo, hl, h3, h4, h5⟩ := hI
      cases rows' with
      | nil => cases hr
      | cons r rows' =>
        injection hr with e1 e2
        subst e1
        have b3 := h3.bor
        have b4 := h4.bor
        have hl : known.length + (rows'.length + 1) = rows.length := hl
        have hn : known.length < sizeLine := by unfold sizeLine; omega
        have rs := @r_Lshown n gs known hk
        cases hs : shownF gs known r with
        | none =>
          rw [go_none hs] at hgo
          have hq' : ∀ ρ, Q' (.rt (.lst [.int i])) ρ = (ρ.take 2 = [.dat (grD gs), .dat (.tuple rows)]) := fun ρ => by
            rw [hq.rt, ← hgo]
            exact propext ⟨fun h => h.2, fun h => ⟨As.l, h⟩⟩
          clear hgo hq h3 h4 e2 hl hv
          rcases h5 with rfl | ⟨d, rfl⟩
          all_goals
            walk_at "ev1"
            walk_at "run"
        | some e =>
          have key := @inv_nx gs rows rest rows' known i r
          have k2 : ∀ {a b c : PyData}, Inv gs rows rest _ := fun {a b c} => key (a := a) (b := b) (c := c) hg hk hs e2 hgo hl
          clear h3 h4 key hgo hq e2 hk hg hl hv
          rcases h5 with rfl | ⟨d, rfl⟩
          all_goals
            walk_at "ev1"
            walk_at "run"
    · obtain ⟨known, i, rows', s3, s4, s5, rfl, hr, hk, hgo, hl, h3, h4, h5⟩ := hI
      cases rows' with
      | cons => cases hr
      | nil =>
        rw [hq.nx, ← hgo]
        clear hgo hq h3 h4 h5 hr hl hv
        walk_at "run"
        exact As.d
  | _ => walk_at "run"; exact As.l
theorem c_chain {n : Nat} {gs : List (List Eqn)} {v : PyData} {ρ : Rho} {Q : NV → Rho → Prop} {E : Exc → Rho → Prop} (hg : ∀ g ∈ gs, ∀ e ∈ g, EqOk e) (hv : ∀ rows, v = .tuple rows → rows.length ≤ 100) (h1 : Q (.dat (ansF gs v)) ρ) (h2 : ∀ d, ansF gs v = .list [d] → E ⟨"BadChain", [("index", d)]⟩ ρ) :
    W (callR (NV.call pg (n + 4)) "chain_shows" [.dat (grD gs), .dat v] ρ) Q E := by
  refine W_callR _ _ rfl rfl (w_chain_shows hg hv) (fun nv fin h => ?_) fun x fin h => ?_
  · obtain ⟨rfl, rfl⟩ := h
    exact h1
  · obtain ⟨rfl, d, rfl, hd⟩ := h
    exact h2 d hd
theorem w_L_told {n : Nat} {gs : List (List Eqn)} {v : PyData} (hg : ∀ g ∈ gs, ∀ e ∈ g, EqOk e) (hv : ∀ rows, v = .tuple rows → rows.length ≤ 100) :
    W (NV.call pg (n + 5) "_law_told" [.dat (grD gs), .dat v]) (fun nv fin => As nv (ansF gs v) ∧ fin = [.dat (grD gs), .dat v]) (fun _ _ => False) := by
  refine W_call (np := 2) (nl := 3) lk_L_told rfl ?_
  show W (exB pg (NV.call pg (n + 4)) (_ :: _) [.dat (grD gs), .dat v, .no]) _ _
  refine W_st fun Q' hq => ?_
  have key : W (callR (NV.call pg (n + 4)) "chain_shows" [.dat (grD gs), .dat v] [.dat (grD gs), .dat v, .no]) (fun nv ρ => ρ = [.dat (grD gs), .dat v, .no] ∧ nv = .dat (ansF gs v)) (fun x ρ => ρ = [.dat (grD gs), .dat v, .no] ∧ ∃ d, x = ⟨"BadChain", [("index", d)]⟩ ∧ ansF gs v = .list [d]) := c_chain hg hv ⟨rfl, rfl⟩ fun d hd => ⟨rfl, d, rfl, hd⟩
  clear hg hv
  cases hc : callR (NV.call pg (n + 4)) "chain_shows" [.dat (grD gs), .dat v] [.dat (grD gs), .dat v, .no] with
  | bad => rw [hc] at key; exact key.elim
  | ok nv ρ =>
    rw [hc] at key
    obtain ⟨rfl, rfl⟩ := key
    walk_at "ew"
    rw [hq.rt]
    exact ⟨As.d, rfl⟩
  | exc x ρ =>
    rw [hc] at key
    obtain ⟨rfl, d, rfl, hd⟩ := key
    have hq' : ∀ ρ, Q' (.rt (.lst [d])) ρ = (ρ.take 2 = [.dat (grD gs), .dat v]) := fun ρ => by
      rw [hq.rt, hd]
      exact propext ⟨fun h => h.2, fun h => ⟨As.l, h⟩⟩
    clear hq hd
    walk_at "ew"
    rfl
end K18
set_option maxHeartbeats 8000000
namespace K18
open PySem NV LW
local macro_rules | `(tactic| walk_at "ew") => `(tactic| simp (config := { dsimp := false }) only [*, r_num, r_lnum, r_var, isNum_eq, r_given, r_given2, sub1, enc_n, enc_s, swap_1, swap_2, in_0, in_1, in_2, in_3, in_4, mk_bad, cat_bad, isx_1, isx_2, atr_1, List.length_map, Option.isSome_none, Option.isSome_some, W_ok, W_exc, W_bad, ↓W_bind, ↓W_seq, seqQ_nx, seqQ_rt, seqQ_bk, seqQ_ct, W_chk, W_grd, W_opi, W_nox, W_cond, bind_ok, bind_exc, bind_bad, nox_ok, nox_bad, rc_t, rc_f, chk_true, chk_false, opt_some, opt_none, seq_nx, seq_rt, seq_bk, seq_ct, seq_exc, evN, evs, eva, evb, evo, evc, evp, exS, exB, esc, sto, stos, stoP, tgs, keepR, fzR, asBool, asOptInt, isiR, mthR, isMut, mutOk, mutR, mutF, NV.putF, NV.data, NV.data1, NV.dataS, NV.dataB, NV.dataR, NV.dat?, SV.data, SV.data1, NV.fz, isLstS, isDicS, bopF, copF, sq_self, eqF_ss, eqF_ii, eqF_bb, eqF_ln, eqF_tn, neF_ss, neF_ii, neF_bb, neF_ln, isN, idxF_t, idxF_l, atF, slcF, revF, biF, itF, isBor, items, iterF, avOf, isAv, List.map_cons, List.map_nil, List.all_cons, List.all_nil, List.getElem?_cons_zero, List.getElem?_cons_succ, List.set_cons_zero, List.set_cons_succ, Option.bind_some, Option.map_some, List.any_cons, List.any_nil, DW.isLst, tyIs, DW.isInt, DW.isBool, DW.isStr, DW.isTup, Bool.not_true, Bool.not_false, Bool.or_false, Bool.or_true, Bool.true_or, Bool.false_or, Bool.and_true, Bool.true_and, Bool.and_false, Bool.false_and, true_and, and_true, Tg.slots, tryR, retR, List.take_succ_cons, List.take_zero, List.length_cons, List.length_nil, List.append_nil, List.cons_append, List.nil_append, ixN0, ixN1, ixN2, forQ_nx, forQ_ct, forQ_bk, forQ_rt, whQ_nx, whQ_ct, whQ_bk, whQ_rt, atI0, atI1, atI2, atI3, forall_const, Bool.false_eq_true, false_and, and_false, not_false_eq_true, reduceCtorEq, false_implies, true_implies, eq_self_iff_true, Bool.true_eq_false, Nat.reduceAdd, Nat.zero_add, cn0, cn1, cn2, cn3, cn4, cn5, cn6, cn7, cn8, cn9, cn10, Int.reduceEq, Int.reduceLT, Int.reduceLE, Int.reduceSub, Int.reduceAdd, decide_true, decide_false])
local macro_rules | `(tactic| walk_at "st") => `(tactic| (refine W_st fun Q' hq => ?_; walk_at "ew"; (try simp only [hq.nx, hq.rt, hq.bk, hq.ct]); (try clear hq Q')))
local macro_rules | `(tactic| walk_at "run") => `(tactic| ((repeat walk_at "st"); (try walk_at "ew")))
local macro_rules | `(tactic| walk_at "ev0") => `(tactic| simp (config := { dsimp := false }) only [W_ok, W_exc, W_bad, ↓W_bind, ↓W_seq, seqQ_nx, seqQ_rt, seqQ_bk, seqQ_ct, W_chk, W_grd, W_opi, W_nox, W_cond, bind_ok, bind_exc, bind_bad, nox_ok, nox_bad, rc_t, rc_f, chk_true, chk_false, opt_some, opt_none, seq_nx, seq_rt, seq_bk, seq_ct, seq_exc, evN, evs, eva, evb, evo, evc, evp, exS, exB, esc, sto, stos, stoP, tgs, keepR, fzR, asBool, asOptInt, isiR, isxR, atrR, mthR, isMut, mutOk, mutR, mutF, NV.putF, NV.data, NV.data1, NV.dataS, NV.dataB, NV.dataR, NV.dat?, SV.data, SV.data1, NV.fz, isLstS, isDicS, bopF, copF, sq_self, eqF_ss, eqF_ii, eqF_bb, eqF_ln, eqF_tn, neF_ss, neF_ii, neF_bb, neF_ln, isN, idxF_t, idxF_l, atF, slcF, revF, biF, itF, isBor, items, iterF, avOf, isAv, List.map_cons, List.map_nil, List.all_cons, List.all_nil, List.getElem?_cons_zero, List.getElem?_cons_succ, List.set_cons_zero, List.set_cons_succ, Option.bind_some, Option.map_some, List.any_cons, List.any_nil, DW.isLst, tyIs, DW.isInt, DW.isBool, DW.isStr, DW.isTup, Bool.not_true, Bool.not_false, Bool.or_false, Bool.or_true, Bool.true_or, Bool.false_or, Bool.and_true, Bool.true_and, Bool.and_false, Bool.false_and, true_and, and_true, Tg.slots, mkExc, catches, tryR, retR, List.take_succ_cons, List.take_zero, List.length_cons, List.length_nil, List.append_nil, List.cons_append, List.nil_append, ixN0, ixN1, ixN2, forQ_nx, forQ_ct, forQ_bk, forQ_rt, whQ_nx, whQ_ct, whQ_bk, whQ_rt, atI0, atI1, atI2, atI3, forall_const, Bool.false_eq_true, false_and, and_false, not_false_eq_true, reduceCtorEq, false_implies, true_implies, eq_self_iff_true, Bool.true_eq_false, Nat.reduceAdd, Nat.zero_add, cn0, cn1, cn2, cn3, cn4, cn5, cn6, cn7, cn8, cn9, cn10, Int.reduceEq, Int.reduceLT, Int.reduceLE, Int.reduceSub, Int.reduceAdd, decide_true, decide_false])
local macro_rules | `(tactic| walk_at "ev1") => `(tactic| simp (config := { dsimp := false }) only [*, tgs, stos, sto, R.bind, bind_ok, W_bind, W_chk, Bool.not_false, true_and, chk_true, List.getElem?_cons_zero, List.getElem?_cons_succ, List.set_cons_zero, List.set_cons_succ, List.length_cons, List.length_nil, Nat.reduceAdd])
/-! ### the shapes that are drawn -/
theorem c_nx {n : Nat} {ρ : Rho} {i : Nat} {b : Bool} {ds : List PyData} {many : Int} {Q : NV → Rho → Prop} {E : Exc → Rho → Prop} (hs : ρ[i]? = some (.own b ds)) (hd : Dr ds) (h0 : 0 < many) (h1 : many < 1073741824)
    (k : ∀ v ds', Dr ds' → 0 ≤ v → v < many → Q (.dat (.int v)) (ρ.set i (.own b ds'))) : W (callR (NV.call pg (n + 1)) "_law_next" [.ali i, .dat (.int many)] ρ) Q E := c_next lk_L_next hs hd h0 h1 k
theorem c_on {n : Nat} {ρ : Rho} {i : Nat} {b : Bool} {ds xs : List PyData} {Q : NV → Rho → Prop} {E : Exc → Rho → Prop} (hs : ρ[i]? = some (.own b ds)) (hd : Dr ds) (h0 : 0 < xs.length) (h1 : xs.length < 1073741824)
    (k : ∀ d ds', Dr ds' → d ∈ xs → Q (.dat d) (ρ.set i (.own b ds'))) : W (callR (NV.call pg (n + 2)) "_law_one" [.ali i, .dat (.list xs)] ρ) Q E := c_one lk_L_next lk_L_one hs hd h0 h1 k
theorem leaf_shp {m : Nat} {many i j : Int} {d : PyData} (hm : many ≤ 200) (i0 : 0 ≤ i) (i1 : i < many) (j0 : 0 ≤ j) (j1 : j < many) (h : d ∈ [PyData.int i, .int j, .tuple [.str "A"], .tuple [.str "B"]]) : Shp (m + 1) d := by
  simp only [List.mem_cons, List.not_mem_nil, or_false] at h
  rcases h with rfl | rfl | rfl | rfl
  · exact .var i0 (by omega)
  · exact .var j0 (by omega)
  · exact .tup (by decide +kernel) (by decide) fun d hd => nomatch hd
  · exact .tup (by decide +kernel) (by decide) fun d hd => nomatch hd
def ShQ (many : Int) (k : Nat) (nv : NV) (fin : Rho) : Prop := ∃ d ds', nv = .dat d ∧ fin = [.own true ds', .dat (.int many), .dat (.int k)] ∧ Dr ds' ∧ Shp (k + 1) d
theorem small_of {c : Int} (h0 : 0 ≤ c) (h1 : c ≤ 100) : small c = true := by
  unfold small
  first | exact decide_eq_true (by unfold sizeLine; omega) | (simp; omega)
theorem ck_no {s0 s1 s2 s3 s4 s5 : SV} {c : Int} (h1 : c ≤ 100) : (allNo [6] [s0, s1, s2, s3, s4, s5, .no] && decide ((DW.upTo 0 c.toNat).length < sizeLine)) = true := by
  have : (DW.upTo 0 c.toNat).length < sizeLine := by rw [DW.upTo_len]; unfold sizeLine; omega
  rw [decide_eq_true this]
  rfl
theorem c_shp {n k : Nat} {many : Int} {ρ : Rho} {i : Nat} {b : Bool} {ds : List PyData} {Q : NV → Rho → Prop} {E : Exc → Rho → Prop} (hs : ρ[i]? = some (.own b ds)) (hw : W (NV.call pg n "_law_shapes" [.own true ds, .dat (.int many), .dat (.int k)]) (ShQ many k) (fun _ _ => False))
    (h : ∀ d ds', Dr ds' → Shp (k + 1) d → Q (.dat d) (ρ.set i (.own b ds'))) : W (callR (NV.call pg n) "_law_shapes" [.ali i, .dat (.int many), .dat (.int k)] ρ) Q E := by
  have e : ([NV.ali i, NV.dat (.int many), NV.dat (.int k)].map (avOf ρ)) = [.own true ds, .dat (.int many), .dat (.int k)] := by simp [avOf, hs]
  refine W_callR _ (fun _ _ => False) rfl (by rw [e]; rfl) (by rw [e]; exact hw) (fun v fin hR => ?_) fun _ _ z => z.elim
  obtain ⟨d, ds', rfl, rfl, hd', hsh⟩ := hR
  have : wback [NV.ali i, NV.dat (.int many), NV.dat (.int k)] [.own true ds', .dat (.int many), .dat (.int k)] ρ = ρ.set i (.own b ds') := by simp [wback, wb1, wb, flag, hs]
  rw [this]
  exact h d ds' hd' hsh
theorem w_shapes {many : Int} (h0 : 0 < many) (h1 : many ≤ 200) : ∀ (k n : Nat) {ds : List PyData}, Dr ds →
    W (NV.call pg (n + k + 2) "_law_shapes" [.own true ds, .dat (.int many), .dat (.int k)]) (ShQ many k) (fun _ _ => False) := by
  intro k
  induction k with
  | zero =>
    intro n ds hd
    refine W_call (np := 3) (nl := 7) lk_L_shapes rfl ?_
    show W (exB pg (NV.call pg (n + 1)) (_ :: _) [.own true ds, .dat (.int many), .dat (.int 0), .no, .no, .no, .no]) _ _
    refine W_st fun Q' hq => ?_
    walk_at "ev0"
    refine c_nx rfl hd (by decide) (by decide) fun w ds1 hd1 w0 w9 => ?_
    walk_at "ev0"
    rw [hq.nx]
    clear hq Q' hd
    refine W_st fun Q' hq => ?_
    walk_at "ev0"
    refine c_nx rfl hd1 h0 (by omega) fun i ds2 hd2 i0 i1 => ?_
    walk_at "ev0"
    refine c_nx rfl hd2 h0 (by omega) fun j ds3 hd3 j0 j1 => ?_
    walk_at "ev0"
    refine c_nx rfl hd3 (by decide) (by decide) fun v ds4 hd4 v0 v1 => ?_
    obtain ⟨a, ha, hm⟩ := at_some (l := [PyData.int i, .int j, .tuple [.str "A"], .tuple [.str "B"]]) v0 v1
    walk_at "ev0"
    rw [ha]
    walk_at "ev0"
    rw [hq.rt]
    exact ⟨a, ds4, rfl, rfl, hd4, leaf_shp h1 i0 i1 j0 j1 hm⟩
  | succ k ih =>
    intro n ds hd
    refine W_call (np := 3) (nl := 7) lk_L_shapes rfl ?_
    show W (exB pg (NV.call pg (n + k + 2)) (_ :: _) [.own true ds, .dat (.int many), .dat (.int (k + 1 : Nat)), .no, .no, .no, .no]) _ _
    refine W_st fun Q' hq => ?_
    walk_at "ev0"
    refine c_nx rfl hd (by decide) (by decide) fun w ds1 hd1 w0 w9 => ?_
    walk_at "ev0"
    rw [hq.nx]
    clear hq Q' hd
    have hz : decide (((k + 1 : Nat) : Int) = 0) = false := decide_eq_false (by omega)
    by_cases hw : w < 3
    · have hw' : decide (w < 3) = true := decide_eq_true hw
      refine W_st fun Q' hq => ?_
      clear ih
      walk_at "ev0"
      rw [hz, hw']
      walk_at "ev0"
      refine c_nx rfl hd1 h0 (by omega) fun i ds2 hd2 i0 i1 => ?_
      walk_at "ev0"
      refine c_nx rfl hd2 h0 (by omega) fun j ds3 hd3 j0 j1 => ?_
      walk_at "ev0"
      refine c_nx rfl hd3 (by decide) (by decide) fun v ds4 hd4 v0 v1 => ?_
      obtain ⟨a, ha, hm⟩ := at_some (l := [PyData.int i, .int j, .tuple [.str "A"], .tuple [.str "B"]]) v0 v1
      walk_at "ev0"
      rw [ha]
      walk_at "ev0"
      rw [hq.rt]
      exact ⟨a, ds4, rfl, rfl, hd4, leaf_shp h1 i0 i1 j0 j1 hm⟩
    · have hw' : decide (w < 3) = false := decide_eq_false hw
      refine W_st fun Q' hq => ?_
      walk_at "ev0"
      rw [hz, hw']
      walk_at "ev0"
      rw [hq.nx]
      clear hq Q'
      refine W_st fun Q' hq => ?_
      obtain ⟨a, ha, hm⟩ := at_some (l := [PyData.tuple [.str "W", .int 1], .tuple [.str "P", .int 2], .tuple [.str "->", .int 2], .tuple [.str "P", .int 2], .tuple [.str "P", .int 3], .tuple [.str "A", .int 1]]) (v := w - 3) (by omega) (by show w - 3 < 6; omega)
      have key : ∃ x c, a = .tuple [.str x, .int c] ∧ x ∈ names ∧ 0 ≤ c ∧ c ≤ 3 := by
        simp only [List.mem_cons, List.not_mem_nil, or_false] at hm
        rcases hm with rfl | rfl | rfl | rfl | rfl | rfl <;> exact ⟨_, _, rfl, by decide +kernel, by decide, by decide⟩
      obtain ⟨x, c, rfl, hx, c0, c3⟩ := key
      walk_at "ev0"
      rw [ha]
      walk_at "ev0"
      rw [hq.nx]
      clear hq Q' ha hm
      refine W_st fun Q' hq => ?_
      walk_at "ev0"
      refine ⟨small_of c0 (by omega), ck_no (by omega), ?_⟩
      refine W_comp (fun rest acc ρ => ∃ ds', ρ = [SV.own true ds', .dat (.int many), .dat (.int (k + 1 : Nat)), .dat (.int w), .dat (.str x), .dat (.int c), .no] ∧ Dr ds' ∧ acc.length + rest.length = c.toNat ∧ ∀ d ∈ acc, Shp (k + 1) d) (fun d rest acc ρ hI => ?_) (fun acc ρ hI => ?_) ⟨ds1, rfl, hd1, by rw [DW.upTo_len]; simp, fun _ h => nomatch h⟩
      · obtain ⟨ds', rfl, hd', hl, ha⟩ := hI
        have ih' := ih n hd'
        clear ih hq
        walk_at "ev0"
        rw [sub1]
        refine c_shp rfl ih' fun e ds2 hd2 hs2 => ?_
        walk_at "ev0"
        refine ⟨ds2, rfl, hd2, ?_, fun y hy => ?_⟩
        · rw [List.length_append]
          simp only [List.length_cons, List.length_nil] at hl ⊢
          omega
        · rcases List.mem_append.mp hy with hy | hy
          · exact ha y hy
          · cases List.mem_singleton.mp hy
            exact hs2
      · obtain ⟨ds', rfl, hd', hl, ha⟩ := hI
        walk_at "ev0"
        rw [hq.rt]
        have hl : acc.length + 0 = c.toNat := hl
        exact ⟨decide_eq_true (by unfold sizeLine; omega), _, ds', rfl, rfl, hd', .tup hx (by omega) ha⟩
/-! ### sides and groups -/
theorem w_sides {n : Nat} {many : Int} {ds : List PyData} (h0 : 0 < many) (h1 : many ≤ 200) (hd : Dr ds) :
    W (NV.call pg (n + 5) "_law_sides" [.own true ds, .dat (.int many)]) (fun nv fin => ∃ (e : Eqn) (ds' : List PyData), nv = .dat (pr e) ∧ fin = [.own true ds', .dat (.int many)] ∧ Dr ds' ∧ EqOk e) (fun _ _ => False) := by
  refine W_call (np := 2) (nl := 5) lk_L_sides rfl ?_
  show W (exB pg (NV.call pg (n + 4)) (_ :: _) [.own true ds, .dat (.int many), .no, .no, .no]) _ _
  refine W_st fun Q' hq => ?_
  walk_at "ev0"
  refine c_shp (k := 2) rfl (w_shapes h0 h1 2 n hd) fun a ds1 hd1 ha => ?_
  walk_at "ev0"
  refine c_nx rfl hd1 (by decide) (by decide) fun w ds2 hd2 w0 w5 => ?_
  walk_at "ev0"
  rw [hq.nx]
  clear hq Q' hd hd1 ds1
  by_cases hw : w = 4
  · have hw' : decide (w = 4) = true := decide_eq_true hw
    clear hw
    refine W_st fun Q' hq => ?_
    walk_at "ev0"
    rw [hw']
    walk_at "ev0"
    refine c_shp (k := 2) rfl (w_shapes h0 h1 2 n hd2) fun b ds3 hd3 hb => ?_
    walk_at "ev0"
    rw [hq.rt]
    exact ⟨(b, a), ds3, rfl, rfl, hd3, hb, ha⟩
  · have hw' : decide (w = 4) = false := decide_eq_false hw
    clear hw
    refine W_st fun Q' hq => ?_
    walk_at "ev0"
    rw [hw']
    walk_at "ev0"
    rw [hq.nx]
    clear hq Q' hw'
    refine W_st fun Q' hq => ?_
    walk_at "ev0"
    refine c_nx rfl hd2 h0 (by omega) fun i ds3 hd3 i0 i1 => ?_
    walk_at "ev0"
    rw [hq.nx]
    clear hq Q' hd2 ds2
    have hi : Shp 3 (.int i) := .var i0 (by omega)
    by_cases hw : w = 3
    · have hw' : decide (w = 3) = true := decide_eq_true hw
      clear hw
      refine W_st fun Q' hq => ?_
      walk_at "ev0"
      rw [hw']
      walk_at "ev0"
      rw [hq.rt]
      exact ⟨(a, .int i), ds3, rfl, rfl, hd3, ha, hi⟩
    · have hw' : decide (w = 3) = false := decide_eq_false hw
      clear hw
      refine W_st fun Q' hq => ?_
      walk_at "ev0"
      rw [hw']
      walk_at "ev0"
      rw [hq.rt]
      exact ⟨(.int i, a), ds3, rfl, rfl, hd3, hi, ha⟩
theorem c_sides {n : Nat} {many : Int} {ρ : Rho} {i : Nat} {b : Bool} {ds : List PyData} {Q : NV → Rho → Prop} {E : Exc → Rho → Prop} (hs : ρ[i]? = some (.own b ds)) (h0 : 0 < many) (h1 : many ≤ 200) (hd : Dr ds)
    (h : ∀ (e : Eqn) ds', Dr ds' → EqOk e → Q (.dat (pr e)) (ρ.set i (.own b ds'))) : W (callR (NV.call pg (n + 5)) "_law_sides" [.ali i, .dat (.int many)] ρ) Q E := by
  have e : ([NV.ali i, NV.dat (.int many)].map (avOf ρ)) = [.own true ds, .dat (.int many)] := by simp [avOf, hs]
  refine W_callR _ (fun _ _ => False) rfl (by rw [e]; rfl) (by rw [e]; exact w_sides h0 h1 hd) (fun v fin hR => ?_) fun _ _ z => z.elim
  obtain ⟨d, ds', rfl, rfl, hd', hsh⟩ := hR
  have : wback [NV.ali i, NV.dat (.int many)] [.own true ds', .dat (.int many)] ρ = ρ.set i (.own b ds') := by simp [wback, wb1, wb, flag, hs]
  rw [this]
  exact h d ds' hd' hsh
/-- groups that are drawn -/
structure GrOk (gs : List (List Eqn)) : Prop where
  ok : ∀ g ∈ gs, ∀ e ∈ g, EqOk e
  le : ∀ g ∈ gs, g.length ≤ 3
theorem GrOk.snoc {gs : List (List Eqn)} {g : List Eqn} (h : GrOk gs) (h1 : ∀ e ∈ g, EqOk e) (h2 : g.length ≤ 3) : GrOk (gs ++ [g]) := by
  refine ⟨fun x hx => ?_, fun x hx => ?_⟩
  · rcases List.mem_append.mp hx with hx | hx
    · exact h.ok x hx
    · cases List.mem_singleton.mp hx; exact h1
  · rcases List.mem_append.mp hx with hx | hx
    · exact h.le x hx
    · cases List.mem_singleton.mp hx; exact h2
def grL (gs : List (List Eqn)) : List PyData := gs.map fun g => .tuple (g.map pr)
theorem grL_snoc {gs : List (List Eqn)} {g : List Eqn} : grL gs ++ [.tuple (g.map pr)] = grL (gs ++ [g]) := by unfold grL; rw [List.map_append]; rfl
theorem w_groups {n : Nat} {many count : Int} {ds : List PyData} (h0 : 0 < many) (h1 : many ≤ 200) (c0 : 0 ≤ count) (c1 : count ≤ 10) (hd : Dr ds) :
    W (NV.call pg (n + 6) "_law_groups" [.own true ds, .dat (.int many), .dat (.int count)]) (fun nv fin => ∃ (gs : List (List Eqn)) (ds' : List PyData), nv = .dat (grD gs) ∧ fin = [.own true ds', .dat (.int many), .dat (.int count)] ∧ Dr ds' ∧ GrOk gs ∧ gs.length = count.toNat) (fun _ _ => False) := by
  refine W_call (np := 3) (nl := 7) lk_L_groups rfl ?_
  show W (exB pg (NV.call pg (n + 5)) (_ :: _) [.own true ds, .dat (.int many), .dat (.int count), .no, .no, .no, .no]) _ _
  walk_at "st"
  refine W_st fun Q' hq => ?_
  walk_at "ev0"
  refine ⟨small_of c0 (by omega), ?_⟩
  refine W_for (fun rest ρ => ∃ (gs : List (List Eqn)) (ds' : List PyData) (s4 s5 : SV), ρ = [.own true ds', .dat (.int many), .dat (.int count), .own false (grL gs), s4, s5, .no] ∧ Dr ds' ∧ GrOk gs ∧ gs.length + rest.length = count.toNat ∧ Sl s4 ∧ Sl s5) ⟨[], ds, .no, .no, rfl, hd, ⟨fun _ h => (nomatch h), fun _ h => (nomatch h)⟩, by rw [DW.upTo_len]; simp, .inl rfl, .inl rfl⟩ (fun d rest ρ hI => ?_) (fun ρ hI => ?_)
  · obtain ⟨gs, ds', s4, s5, rfl, hd', hgr, hl, h4, h5⟩ := hI
    have hl : gs.length + (rest.length + 1) = count.toNat := hl
    have b4 := h4.bor
    have b5 : (!isBor (some s5)) = true := by rw [h5.bor]; rfl
    clear hq hd
    walk_at "ev1"
    refine W_st fun Q1 hq => ?_
    walk_at "ev0"
    refine c_nx rfl hd' (by decide) (by decide) fun v ds2 hd2 v0 v1 => ?_
    obtain ⟨a, ha, hm⟩ := at_some (l := [PyData.int 1, .int 1, .int 1, .int 2, .int 0, .int 3]) v0 v1
    have key : ∃ c, a = .int c ∧ 0 ≤ c ∧ c ≤ 3 := by
      simp only [List.mem_cons, List.not_mem_nil, or_false] at hm
      rcases hm with rfl | rfl | rfl | rfl | rfl | rfl <;> exact ⟨_, rfl, by decide, by decide⟩
    obtain ⟨c, rfl, k0, k3⟩ := key
    rcases h5 with rfl | ⟨_, rfl⟩
    all_goals
      walk_at "ev0"
      rw [ha]
      walk_at "ev0"
      rw [hq.nx]
      clear hq Q1 ha hm
      refine W_st fun Q1 hq => ?_
      walk_at "ev0"
      refine ⟨small_of k0 (by omega), ck_no (by omega), ?_⟩
      refine W_comp (fun rest acc ρ => ∃ (ds' : List PyData) (g : List Eqn), ρ = [SV.own true ds', .dat (.int many), .dat (.int count), .own false (grL gs), .dat d, .dat (.int c), .no] ∧ Dr ds' ∧ acc = g.map pr ∧ g.length + rest.length = c.toNat ∧ ∀ e ∈ g, EqOk e) (fun d rest acc ρ hI => ?_) (fun acc ρ hI => ?_) ⟨ds2, [], rfl, hd2, rfl, by rw [DW.upTo_len]; simp, fun _ h => nomatch h⟩
      · obtain ⟨ds', g, rfl, hd', rfl, hl, ha⟩ := hI
        clear hq
        walk_at "ev0"
        refine c_sides rfl h0 h1 hd' fun e ds2 hd2 he => ?_
        walk_at "ev0"
        refine ⟨ds2, g ++ [e], rfl, hd2, by rw [List.map_append]; rfl, ?_, fun y hy => ?_⟩
        · rw [List.length_append]
          simp only [List.length_cons, List.length_nil] at hl ⊢
          omega
        · rcases List.mem_append.mp hy with hy | hy
          · exact ha y hy
          · cases List.mem_singleton.mp hy
            exact he
      · obtain ⟨ds', g, rfl, hd', rfl, hl', ha⟩ := hI
        have hl' : g.length + 0 = c.toNat := hl'
        walk_at "ev0"
        rw [hq.nx]
        clear hq Q1
        walk_at "ev0"
        have hln : (grL gs).length = gs.length := by unfold grL; rw [List.length_map]
        exact ⟨by unfold sizeLine; omega, gs ++ [g], ds', _, _, by rw [← grL_snoc], hd', hgr.snoc ha (by omega), by rw [List.length_append]; simp only [List.length_cons, List.length_nil]; omega, .inr ⟨_, rfl⟩, .inr ⟨_, rfl⟩⟩
  · obtain ⟨gs, ds', s4, s5, rfl, hd', hgr, hl, h4, h5⟩ := hI
    rw [hq.nx]
    clear hq Q'
    refine W_st fun Q' hq => ?_
    walk_at "ev0"
    rw [hq.rt]
    exact ⟨gs, ds', rfl, rfl, hd', hgr, hl⟩
theorem c_groups {n : Nat} {many count : Int} {ρ : Rho} {i : Nat} {b : Bool} {ds : List PyData} {Q : NV → Rho → Prop} {E : Exc → Rho → Prop} (hs : ρ[i]? = some (.own b ds)) (h0 : 0 < many) (h1 : many ≤ 200) (c0 : 0 ≤ count) (c1 : count ≤ 10) (hd : Dr ds)
    (h : ∀ gs ds', Dr ds' → GrOk gs → gs.length = count.toNat → Q (.dat (grD gs)) (ρ.set i (.own b ds'))) : W (callR (NV.call pg (n + 6)) "_law_groups" [.ali i, .dat (.int many), .dat (.int count)] ρ) Q E := by
  have e : ([NV.ali i, NV.dat (.int many), NV.dat (.int count)].map (avOf ρ)) = [.own true ds, .dat (.int many), .dat (.int count)] := by simp [avOf, hs]
  refine W_callR _ (fun _ _ => False) rfl (by rw [e]; rfl) (by rw [e]; exact w_groups h0 h1 c0 c1 hd) (fun v fin hR => ?_) fun _ _ z => z.elim
  obtain ⟨gs, ds', rfl, rfl, hd', hg, hl⟩ := hR
  have : wback [NV.ali i, NV.dat (.int many), NV.dat (.int count)] [.own true ds', .dat (.int many), .dat (.int count)] ρ = ρ.set i (.own b ds') := by simp [wback, wb1, wb, flag, hs]
  rw [this]
  exact h gs ds' hd' hg hl
end K18
set_option maxHeartbeats 8000000
namespace K18
open PySem NV LW
local macro_rules | `(tactic| walk_at "ew") => `(tactic| simp (config := { dsimp := false }) only [*, r_num, r_lnum, r_var, isNum_eq, r_given, r_given2, sub1, enc_n, enc_s, swap_1, swap_2, in_0, in_1, in_2, in_3, in_4, mk_bad, cat_bad, isx_1, isx_2, atr_1, List.length_map, Option.isSome_none, Option.isSome_some, W_ok, W_exc, W_bad, ↓W_bind, ↓W_seq, seqQ_nx, seqQ_rt, seqQ_bk, seqQ_ct, W_chk, W_grd, W_opi, W_nox, W_cond, bind_ok, bind_exc, bind_bad, nox_ok, nox_bad, rc_t, rc_f, chk_true, chk_false, opt_some, opt_none, seq_nx, seq_rt, seq_bk, seq_ct, seq_exc, evN, evs, eva, evb, evo, evc, evp, exS, exB, esc, sto, stos, stoP, tgs, keepR, fzR, asBool, asOptInt, isiR, mthR, isMut, mutOk, mutR, mutF, NV.putF, NV.data, NV.data1, NV.dataS, NV.dataB, NV.dataR, NV.dat?, SV.data, SV.data1, NV.fz, isLstS, isDicS, bopF, copF, sq_self, eqF_ss, eqF_ii, eqF_bb, eqF_ln, eqF_tn, neF_ss, neF_ii, neF_bb, neF_ln, isN, idxF_t, idxF_l, atF, slcF, revF, biF, itF, isBor, items, iterF, avOf, isAv, List.map_cons, List.map_nil, List.all_cons, List.all_nil, List.getElem?_cons_zero, List.getElem?_cons_succ, List.set_cons_zero, List.set_cons_succ, Option.bind_some, Option.map_some, List.any_cons, List.any_nil, DW.isLst, tyIs, DW.isInt, DW.isBool, DW.isStr, DW.isTup, Bool.not_true, Bool.not_false, Bool.or_false, Bool.or_true, Bool.true_or, Bool.false_or, Bool.and_true, Bool.true_and, Bool.and_false, Bool.false_and, true_and, and_true, Tg.slots, tryR, retR, List.take_succ_cons, List.take_zero, List.length_cons, List.length_nil, List.append_nil, List.cons_append, List.nil_append, ixN0, ixN1, ixN2, forQ_nx, forQ_ct, forQ_bk, forQ_rt, whQ_nx, whQ_ct, whQ_bk, whQ_rt, atI0, atI1, atI2, atI3, forall_const, Bool.false_eq_true, false_and, and_false, not_false_eq_true, reduceCtorEq, false_implies, true_implies, eq_self_iff_true, Bool.true_eq_false, Nat.reduceAdd, Nat.zero_add, cn0, cn1, cn2, cn3, cn4, cn5, cn6, cn7, cn8, cn9, cn10, Int.reduceEq, Int.reduceLT, Int.reduceLE, Int.reduceSub, Int.reduceAdd, decide_true, decide_false])
local macro_rules | `(tactic| walk_at "st") => `(tactic| (refine W_st fun Q' hq => ?_; walk_at "ew"; (try simp only [hq.nx, hq.rt, hq.bk, hq.ct]); (try clear hq Q')))
local macro_rules | `(tactic| walk_at "run") => `(tactic| ((repeat walk_at "st"); (try walk_at "ew")))
local macro_rules | `(tactic| walk_at "ev0") => `(tactic| simp (config := { dsimp := false }) only [W_ok, W_exc, W_bad, ↓W_bind, ↓W_seq, seqQ_nx, seqQ_rt, seqQ_bk, seqQ_ct, W_chk, W_grd, W_opi, W_nox, W_cond, bind_ok, bind_exc, bind_bad, nox_ok, nox_bad, rc_t, rc_f, chk_true, chk_false, opt_some, opt_none, seq_nx, seq_rt, seq_bk, seq_ct, seq_exc, evN, evs, eva, evb, evo, evc, evp, exS, exB, esc, sto, stos, stoP, tgs, keepR, fzR, asBool, asOptInt, isiR, isxR, atrR, mthR, isMut, mutOk, mutR, mutF, NV.putF, NV.data, NV.data1, NV.dataS, NV.dataB, NV.dataR, NV.dat?, SV.data, SV.data1, NV.fz, isLstS, isDicS, bopF, copF, sq_self, eqF_ss, eqF_ii, eqF_bb, eqF_ln, eqF_tn, neF_ss, neF_ii, neF_bb, neF_ln, isN, idxF_t, idxF_l, atF, slcF, revF, biF, itF, isBor, items, iterF, avOf, isAv, List.map_cons, List.map_nil, List.all_cons, List.all_nil, List.getElem?_cons_zero, List.getElem?_cons_succ, List.set_cons_zero, List.set_cons_succ, Option.bind_some, Option.map_some, List.any_cons, List.any_nil, DW.isLst, tyIs, DW.isInt, DW.isBool, DW.isStr, DW.isTup, Bool.not_true, Bool.not_false, Bool.or_false, Bool.or_true, Bool.true_or, Bool.false_or, Bool.and_true, Bool.true_and, Bool.and_false, Bool.false_and, true_and, and_true, Tg.slots, mkExc, catches, tryR, retR, List.take_succ_cons, List.take_zero, List.length_cons, List.length_nil, List.append_nil, List.cons_append, List.nil_append, ixN0, ixN1, ixN2, forQ_nx, forQ_ct, forQ_bk, forQ_rt, whQ_nx, whQ_ct, whQ_bk, whQ_rt, atI0, atI1, atI2, atI3, forall_const, Bool.false_eq_true, false_and, and_false, not_false_eq_true, reduceCtorEq, false_implies, true_implies, eq_self_iff_true, Bool.true_eq_false, Nat.reduceAdd, Nat.zero_add, cn0, cn1, cn2, cn3, cn4, cn5, cn6, cn7, cn8, cn9, cn10, Int.reduceEq, Int.reduceLT, Int.reduceLE, Int.reduceSub, Int.reduceAdd, decide_true, decide_false])
local macro_rules | `(tactic| walk_at "ev1") => `(tactic| simp (config := { dsimp := false }) only [*, tgs, stos, sto, R.bind, bind_ok, W_bind, W_chk, Bool.not_false, true_and, chk_true, List.getElem?_cons_zero, List.getElem?_cons_succ, List.set_cons_zero, List.set_cons_succ, List.length_cons, List.length_nil, Nat.reduceAdd])
/-! ### rows -/
def RowOk (d : PyData) : Prop := Sm 4 2 d
theorem sm_str {x : Str} (h : rp (.str x) = true) : Sm 1 0 (.str x) := ⟨h, by rw [sz] <;> first | exact Nat.le_refl _ | (intro ds e; exact nomatch e), by rw [PyData.depth]; exact Nat.le_refl _⟩
theorem row2 {x : Str} {i : Int} (h : rp (.str x) = true) (h0 : -5 ≤ i) (h1 : i ≤ 1000) : RowOk (.tuple [.str x, .int i]) := by
  refine (Sm.tup (n := 1) (m := 0) (k := 3) (fun d hd => ?_) (by simp)).mono (by decide) (by decide)
  simp only [List.mem_cons, List.not_mem_nil, or_false] at hd
  rcases hd with rfl | rfl
  · exact sm_str h
  · exact Sm.int h0 h1
theorem row3 {x : Str} {i j : Int} (h : rp (.str x) = true) (h0 : -5 ≤ i) (h1 : i ≤ 1000) (g0 : -5 ≤ j) (g1 : j ≤ 1000) : RowOk (.tuple [.str x, .int i, .int j]) := by
  refine (Sm.tup (n := 1) (m := 0) (k := 3) (fun d hd => ?_) (by simp)).mono (by decide) (by decide)
  simp only [List.mem_cons, List.not_mem_nil, or_false] at hd
  rcases hd with rfl | rfl | rfl
  · exact sm_str h
  · exact Sm.int h0 h1
  · exact Sm.int g0 g1
theorem rp_g : rp (.str "given") = true := by decide +kernel
theorem rp_t : rp (.str "turned") = true := by decide +kernel
theorem rp_j : rp (.str "joined") = true := by decide +kernel
theorem rp_p : rp (.str "part") = true := by decide +kernel
theorem rp_u : rp (.str "put") = true := by decide +kernel
theorem w_tried {n : Nat} {gs : List (List Eqn)} {many : Int} {ds : List PyData} (hg : GrOk gs) (l0 : 0 < gs.length) (l1 : gs.length ≤ 100) (h0 : 0 ≤ many) (h1 : many ≤ 100) (hd : Dr ds) :
    W (NV.call pg (n + 3) "_law_tried" [.own true ds, .dat (grD gs), .dat (.int many)]) (fun nv fin => ∃ (d : PyData) (ds' : List PyData), nv = .dat d ∧ fin = [.own true ds', .dat (grD gs), .dat (.int many)] ∧ Dr ds' ∧ RowOk d) (fun _ _ => False) := by
  refine W_call (np := 3) (nl := 8) lk_L_tried rfl ?_
  show W (exB pg (NV.call pg (n + 2)) (_ :: _) [.own true ds, .dat (.tuple (grL gs)), .dat (.int many), .no, .no, .no, .no, .no]) _ _
  have hln : (grL gs).length = gs.length := by unfold grL; rw [List.length_map]
  refine W_st fun Q' hq => ?_
  walk_at "ev0"
  refine c_nx rfl hd (by omega) (by omega) fun g ds1 hd1 g0 g1 => ?_
  walk_at "ev0"
  refine c_nx rfl hd1 (by omega) (by omega) fun a ds2 hd2 a0 a1 => ?_
  walk_at "ev0"
  refine c_nx rfl hd2 (by omega) (by omega) fun b ds3 hd3 b0 b1 => ?_
  walk_at "ev0"
  rw [hq.nx]
  clear hq Q' hd hd1 ds1 hd2 ds2
  obtain ⟨q, hq, hm⟩ := at_some g0 g1
  have key : ∃ q', q = .tuple q' ∧ q'.length ≤ 3 := by
    unfold grL at hm
    obtain ⟨x, hx, rfl⟩ := List.mem_map.mp hm
    exact ⟨_, rfl, by rw [List.length_map]; exact hg.le x hx⟩
  obtain ⟨q, rfl, hql⟩ := key
  refine W_st fun Q' hQ => ?_
  walk_at "ev0"
  rw [hq]
  walk_at "ev0"
  refine c_nx rfl hd3 (by omega) (by omega) fun c ds1 hd1 e0 e1 => ?_
  walk_at "ev0"
  rw [hQ.nx]
  clear hQ Q' hq hm
  refine W_st fun Q' hQ => ?_
  walk_at "ev0"
  rw [hQ.nx]
  clear hQ Q'
  refine W_st fun Q' hQ => ?_
  walk_at "ev0"
  refine c_nx rfl hd1 (by decide) (by decide) fun p ds2 hd2 p0 p1 => ?_
  walk_at "ev0"
  refine ⟨by decide +kernel, ?_⟩
  refine c_on rfl hd2 (by simp) (by simp) fun d ds4 hd4 hm => ?_
  walk_at "ev0"
  rw [hQ.rt]
  refine ⟨d, ds4, rfl, rfl, hd4, ?_⟩
  simp only [List.mem_cons, List.not_mem_nil, or_false] at hm
  rcases hm with rfl | rfl | rfl | rfl | rfl | rfl
  · exact row3 rp_g (by omega) (by omega) (by omega) (by omega)
  · exact row3 rp_g (by omega) (by omega) (by omega) (by omega)
  · exact row2 rp_t (by omega) (by omega)
  · exact row3 rp_j (by omega) (by omega) (by omega) (by omega)
  · exact row3 rp_j (by omega) (by omega) (by omega) (by omega)
  · exact row3 rp_p (by omega) (by omega) (by omega) (by omega)
theorem c_tried {n : Nat} {gs : List (List Eqn)} {many : Int} {ρ : Rho} {i : Nat} {b : Bool} {ds : List PyData} {Q : NV → Rho → Prop} {E : Exc → Rho → Prop} (hs : ρ[i]? = some (.own b ds)) (hg : GrOk gs) (l0 : 0 < gs.length) (l1 : gs.length ≤ 100) (h0 : 0 ≤ many) (h1 : many ≤ 100) (hd : Dr ds)
    (h : ∀ d ds', Dr ds' → RowOk d → Q (.dat d) (ρ.set i (.own b ds'))) : W (callR (NV.call pg (n + 3)) "_law_tried" [.ali i, .dat (grD gs), .dat (.int many)] ρ) Q E := by
  have e : ([NV.ali i, NV.dat (grD gs), NV.dat (.int many)].map (avOf ρ)) = [.own true ds, .dat (grD gs), .dat (.int many)] := by simp [avOf, hs]
  refine W_callR _ (fun _ _ => False) rfl (by rw [e]; rfl) (by rw [e]; exact w_tried hg l0 l1 h0 h1 hd) (fun v fin hR => ?_) fun _ _ z => z.elim
  obtain ⟨d, ds', rfl, rfl, hd', hsh⟩ := hR
  have : wback [NV.ali i, NV.dat (grD gs), NV.dat (.int many)] [.own true ds', .dat (grD gs), .dat (.int many)] ρ = ρ.set i (.own b ds') := by simp [wback, wb1, wb, flag, hs]
  rw [this]
  exact h d ds' hd' hsh
/-! ### a chain -/
theorem mem_snoc {α : Type} {p : α → Prop} {l : List α} {a : α} (h : ∀ x ∈ l, p x) (ha : p a) : ∀ x ∈ l ++ [a], p x := fun x hx => by
  rcases List.mem_append.mp hx with hx | hx
  · exact h x hx
  · cases List.mem_singleton.mp hx
    exact ha
def ChI (gs : List (List Eqn)) (ρ : Rho) : Prop :=
  ∃ (ds' : List PyData) (known : List Eqn) (found : List PyData) (s4 s5 s6 : SV), ρ = [.own true ds', .dat (grD gs), .dat (.tuple found), .own false (known.map pr), s4, s5, s6] ∧ Dr ds' ∧ (∀ e ∈ known, EqOk e) ∧ found.length = known.length ∧ found.length ≤ 18 ∧ (∀ r ∈ found, RowOk r) ∧ Sl s4 ∧ Sl s5 ∧ Sl s6
theorem ch_same {gs : List (List Eqn)} {ds found : List PyData} {known : List Eqn} {a b c : PyData} (hd : Dr ds) (hk : ∀ e ∈ known, EqOk e) (hl : found.length = known.length) (h18 : found.length ≤ 18) (hr : ∀ r ∈ found, RowOk r) :
    ChI gs [.own true ds, .dat (grD gs), .dat (.tuple found), .own false (known.map pr), .dat a, .dat b, .dat c] := ⟨ds, known, found, _, _, _, rfl, hd, hk, hl, h18, hr, .inr ⟨_, rfl⟩, .inr ⟨_, rfl⟩, .inr ⟨_, rfl⟩⟩
theorem ch_more {gs : List (List Eqn)} {ds found : List PyData} {known : List Eqn} {a b c r : PyData} {e : Eqn} (hd : Dr ds) (hk : ∀ e ∈ known, EqOk e) (hl : found.length = known.length) (hr : ∀ r ∈ found, RowOk r) (he : EqOk e) (hrow : RowOk r) (h : decide ((known.length : Int) < 18) = true) :
    ChI gs [.own true ds, .dat (grD gs), .dat (.tuple (found ++ [r])), .own false (known.map pr ++ [.tuple [e.1, e.2]]), .dat a, .dat b, .dat c] := by
  rw [map_pr]
  have h := of_decide_eq_true h
  refine ch_same hd (mem_snoc hk he) ?_ ?_ (mem_snoc hr hrow)
  · rw [List.length_append, List.length_append, hl]; rfl
  · rw [List.length_append]; simp only [List.length_cons, List.length_nil]; omega
theorem w_chain {n : Nat} {gs : List (List Eqn)} {ds : List PyData} (hg : GrOk gs) (l0 : 0 < gs.length) (l1 : gs.length ≤ 100) (hd : Dr ds) :
    W (NV.call pg (n + 4) "_law_chain" [.own true ds, .dat (grD gs)]) (fun nv fin => ∃ (rows ds' : List PyData), nv = .dat (.tuple rows) ∧ fin = [.own true ds', .dat (grD gs)] ∧ Dr ds' ∧ rows.length ≤ 18 ∧ ∀ r ∈ rows, RowOk r) (fun _ _ => False) := by
  refine W_call (np := 2) (nl := 7) lk_L_chain rfl ?_
  show W (exB pg (NV.call pg (n + 3)) (_ :: _) [.own true ds, .dat (grD gs), .no, .no, .no, .no, .no]) _ _
  walk_at "st"
  refine W_st fun Q' hq => ?_
  walk_at "ev0"
  refine ⟨small_of (by decide) (by decide), ?_⟩
  refine W_for (fun _ ρ => ChI gs ρ) ⟨ds, [], [], _, _, _, rfl, hd, fun _ h => (nomatch h), rfl, by decide, fun _ h => (nomatch h), .inl rfl, .inl rfl, .inl rfl⟩ (fun d rest ρ hI => ?_) (fun ρ hI => ?_)
  · obtain ⟨ds', known, found, s4, s5, s6, rfl, hd', hk, hl, h18, hr, h4, h5, h6⟩ := hI
    have b4 := h4.bor
    clear hq hd
    walk_at "ev1"
    refine W_st fun Q1 hq => ?_
    walk_at "ev0"
    refine c_tried rfl hg l0 l1 (by omega) (by rw [List.length_map]; omega) hd' fun r ds2 hd2 hrow => ?_
    rcases h5 with rfl | ⟨_, rfl⟩ <;> rcases h6 with rfl | ⟨_, rfl⟩
    all_goals
      walk_at "ev0"
      rw [hq.nx]
      clear hq Q1
      have rs := @r_Lshown3 n gs known hk
      cases hs : shownF gs known r with
      | none =>
        walk_at "st"
        walk_at "st"
        walk_at "ew"
        exact ch_same hd2 hk hl h18 hr
      | some e =>
        have hn := shown_ok hg.ok hk hs
        walk_at "st"
        walk_at "st"
        walk_at "ew"
        exact ⟨fun h => ⟨decide_eq_true (by unfold sizeLine; omega), decide_eq_true (by unfold sizeLine; omega), ch_more hd2 hk hl hr hn hrow h⟩, fun _ => ch_same hd2 hk hl h18 hr⟩
  · obtain ⟨ds', known, found, s4, s5, s6, rfl, hd', hk, hl, h18, hr, h4, h5, h6⟩ := hI
    rw [hq.nx]
    clear hq Q'
    refine W_st fun Q' hq => ?_
    walk_at "ev0"
    rw [hq.rt]
    exact ⟨found, ds', rfl, rfl, hd', h18, hr⟩
theorem c_chn {n : Nat} {gs : List (List Eqn)} {ρ : Rho} {i : Nat} {b : Bool} {ds : List PyData} {Q : NV → Rho → Prop} {E : Exc → Rho → Prop} (hs : ρ[i]? = some (.own b ds)) (hg : GrOk gs) (l0 : 0 < gs.length) (l1 : gs.length ≤ 100) (hd : Dr ds)
    (h : ∀ rows ds', Dr ds' → rows.length ≤ 18 → (∀ r ∈ rows, RowOk r) → Q (.dat (.tuple rows)) (ρ.set i (.own b ds'))) : W (callR (NV.call pg (n + 4)) "_law_chain" [.ali i, .dat (grD gs)] ρ) Q E := by
  have e : ([NV.ali i, NV.dat (grD gs)].map (avOf ρ)) = [.own true ds, .dat (grD gs)] := by simp [avOf, hs]
  refine W_callR _ (fun _ _ => False) rfl (by rw [e]; rfl) (by rw [e]; exact w_chain hg l0 l1 hd) (fun v fin hR => ?_) fun _ _ z => z.elim
  obtain ⟨d, ds', rfl, rfl, hd', h1, h2⟩ := hR
  have : wback [NV.ali i, NV.dat (grD gs)] [.own true ds', .dat (grD gs)] ρ = ρ.set i (.own b ds') := by simp [wback, wb1, wb, flag, hs]
  rw [this]
  exact h d ds' hd' h1 h2
/-! ### a spoilt chain -/
theorem odd_ok {d : PyData} (h : d ∈ [PyData.none, .tuple [], .tuple [.str "turned", .int (-1)], .tuple [.str "turned", .bool true], .tuple [.str "given", .int 0], .list [.str "turned", .int 0], .tuple [.str "given", .int 0, .int (-1)], .int 0]) : RowOk d := by
  simp only [List.mem_cons, List.not_mem_nil, or_false] at h
  rcases h with rfl | rfl | rfl | rfl | rfl | rfl | rfl | rfl <;> exact ⟨by decide +kernel, by decide +kernel, by decide +kernel⟩
theorem more_ok {d : PyData} {i : Int} (h0 : 0 ≤ i) (h1 : i ≤ 1000) (h : d ∈ [PyData.tuple [.str "joined", .int (-1), .int 0], .tuple [.str "part", .int 0, .int (-1)], .tuple [.str "turned", .int i], .tuple [.list [], .int 0], .tuple [.str "put", .int 0, .int 0], .tuple [.str "turned", .int 0, .int 0]]) : RowOk d := by
  simp only [List.mem_cons, List.not_mem_nil, or_false] at h
  rcases h with rfl | rfl | rfl | rfl | rfl | rfl
  · exact row3 rp_j (by decide) (by decide) (by decide) (by decide)
  · exact row3 rp_p (by decide) (by decide) (by decide) (by decide)
  · exact row2 rp_t (by omega) (by omega)
  · exact ⟨by decide +kernel, by decide +kernel, by decide +kernel⟩
  · exact row3 rp_u (by decide) (by decide) (by decide) (by decide)
  · exact row3 rp_t (by decide) (by decide) (by decide) (by decide)
theorem cut_len {xs : List PyData} {lo hi : Option Int} : (DW.cutD xs lo hi).length ≤ xs.length := by
  unfold DW.cutD
  rw [List.length_take, List.length_drop]
  omega
theorem cut_mem {xs : List PyData} {lo hi : Option Int} {p : PyData → Prop} (h : ∀ x ∈ xs, p x) : ∀ x ∈ DW.cutD xs lo hi, p x := fun x hx => by
  unfold DW.cutD at hx
  exact h x (List.mem_of_mem_drop (List.mem_of_mem_take hx))
theorem w_spoilt {n : Nat} {gs : List (List Eqn)} {rows ds : List PyData} (hg : GrOk gs) (l0 : 0 < gs.length) (l1 : gs.length ≤ 100) (hl : rows.length ≤ 40) (hr : ∀ r ∈ rows, RowOk r) (hd : Dr ds) :
    W (NV.call pg (n + 4) "_law_spoilt" [.own true ds, .dat (grD gs), .dat (.tuple rows)]) (fun nv fin => ∃ (rows' ds' : List PyData), nv = .dat (.tuple rows') ∧ fin = [.own true ds', .dat (grD gs), .dat (.tuple rows)] ∧ Dr ds' ∧ rows'.length ≤ 2 * rows.length + 1 ∧ ∀ r ∈ rows', RowOk r) (fun _ _ => False) := by
  refine W_call (np := 3) (nl := 7) lk_L_spoilt rfl ?_
  show W (exB pg (NV.call pg (n + 3)) (_ :: _) [.own true ds, .dat (grD gs), .dat (.tuple rows), .no, .no, .no, .no]) _ _
  refine W_st fun Q' hq => ?_
  walk_at "ev0"
  refine c_nx rfl hd (by omega) (by omega) fun s ds1 hd1 s0 s1 => ?_
  walk_at "ev0"
  rw [hq.nx]
  clear hq Q' hd
  refine W_st fun Q' hq => ?_
  walk_at "ev0"
  refine c_on rfl hd1 (by simp) (by simp) fun d1 ds2 hd2 hm1 => ?_
  walk_at "ev0"
  rw [hq.nx]
  clear hq Q' hd1
  have o1 := odd_ok hm1
  clear hm1
  refine W_st fun Q' hq => ?_
  walk_at "ev0"
  refine c_on rfl hd2 (by simp) (by simp) fun d2 ds3 hd3 hm2 => ?_
  walk_at "ev0"
  rw [hq.nx]
  clear hq Q' hd2
  have o2 := more_ok s0 (by omega) hm2
  clear hm2
  refine W_st fun Q' hq => ?_
  walk_at "ev0"
  refine c_tried rfl hg l0 l1 (by omega) (by omega) hd3 fun r3 ds4 hd4 o3 => ?_
  walk_at "ev0"
  refine c_on rfl hd4 (by simp) (by simp) fun d ds5 hd5 hm => ?_
  walk_at "ev0"
  rw [hq.nx]
  clear hq Q' hd3 hd4
  have o : RowOk d := by
    simp only [List.mem_cons, List.not_mem_nil, or_false] at hm
    rcases hm with rfl | rfl | rfl | rfl | rfl
    · exact o1
    · exact o2
    · exact o3
    · exact row3 rp_j (by decide) (by decide) (by decide) (by decide)
    · exact row3 rp_p (by decide) (by decide) (by decide) (by decide)
  clear hm
  refine W_st fun Q' hq => ?_
  have c1 := @cut_len rows none (some s)
  walk_at "ev0"
  refine ⟨decide_eq_true (by unfold sizeLine; omega), ?_⟩
  refine c_nx rfl hd5 (by decide) (by decide) fun t ds6 hd6 t0 t1 => ?_
  have c2 := @cut_len rows (some (s + t)) none
  walk_at "ev0"
  rw [hq.rt]
  have hlen : (DW.cutD rows none (some s) ++ [d]).length = (DW.cutD rows none (some s)).length + 1 := by rw [List.length_append]; rfl
  refine ⟨?_, _, ds6, rfl, rfl, hd6, ?_, fun r hr' => ?_⟩
  · first
      | exact decide_eq_true (by rw [hlen]; unfold sizeLine; omega)
      | exact decide_eq_true (by unfold sizeLine; omega)
  · simp only [List.length_append, List.length_cons, List.length_nil]
    omega
  · rcases List.mem_append.mp hr' with h | h
    · exact mem_snoc (cut_mem hr) o r h
    · exact cut_mem hr r h
theorem c_spoilt {n : Nat} {gs : List (List Eqn)} {rows : List PyData} {ρ : Rho} {i : Nat} {b : Bool} {ds : List PyData} {Q : NV → Rho → Prop} {E : Exc → Rho → Prop} (hs : ρ[i]? = some (.own b ds)) (hg : GrOk gs) (l0 : 0 < gs.length) (l1 : gs.length ≤ 100) (hl : rows.length ≤ 40) (hr : ∀ r ∈ rows, RowOk r) (hd : Dr ds)
    (h : ∀ rows' ds', Dr ds' → rows'.length ≤ 2 * rows.length + 1 → (∀ r ∈ rows', RowOk r) → Q (.dat (.tuple rows')) (ρ.set i (.own b ds'))) : W (callR (NV.call pg (n + 4)) "_law_spoilt" [.ali i, .dat (grD gs), .dat (.tuple rows)] ρ) Q E := by
  have e : ([NV.ali i, NV.dat (grD gs), NV.dat (.tuple rows)].map (avOf ρ)) = [.own true ds, .dat (grD gs), .dat (.tuple rows)] := by simp [avOf, hs]
  refine W_callR _ (fun _ _ => False) rfl (by rw [e]; rfl) (by rw [e]; exact w_spoilt hg l0 l1 hl hr hd) (fun v fin hR => ?_) fun _ _ z => z.elim
  obtain ⟨d, ds', rfl, rfl, hd', h1, h2⟩ := hR
  have : wback [NV.ali i, NV.dat (grD gs), NV.dat (.tuple rows)] [.own true ds', .dat (grD gs), .dat (.tuple rows)] ρ = ρ.set i (.own b ds') := by simp [wback, wb1, wb, flag, hs]
  rw [this]
  exact h d ds' hd' h1 h2
end K18
set_option maxHeartbeats 8000000
namespace K18
open PySem NV LW
local macro_rules | `(tactic| walk_at "ew") => `(tactic| simp (config := { dsimp := false }) only [*, r_num, r_lnum, r_var, isNum_eq, r_given, r_given2, sub1, enc_n, enc_s, swap_1, swap_2, in_0, in_1, in_2, in_3, in_4, mk_bad, cat_bad, isx_1, isx_2, atr_1, List.length_map, Option.isSome_none, Option.isSome_some, W_ok, W_exc, W_bad, ↓W_bind, ↓W_seq, seqQ_nx, seqQ_rt, seqQ_bk, seqQ_ct, W_chk, W_grd, W_opi, W_nox, W_cond, bind_ok, bind_exc, bind_bad, nox_ok, nox_bad, rc_t, rc_f, chk_true, chk_false, opt_some, opt_none, seq_nx, seq_rt, seq_bk, seq_ct, seq_exc, evN, evs, eva, evb, evo, evc, evp, exS, exB, esc, sto, stos, stoP, tgs, keepR, fzR, asBool, asOptInt, isiR, mthR, isMut, mutOk, mutR, mutF, NV.putF, NV.data, NV.data1, NV.dataS, NV.dataB, NV.dataR, NV.dat?, SV.data, SV.data1, NV.fz, isLstS, isDicS, bopF, copF, sq_self, eqF_ss, eqF_ii, eqF_bb, eqF_ln, eqF_tn, neF_ss, neF_ii, neF_bb, neF_ln, isN, idxF_t, idxF_l, atF, slcF, revF, biF, itF, isBor, items, iterF, avOf, isAv, List.map_cons, List.map_nil, List.all_cons, List.all_nil, List.getElem?_cons_zero, List.getElem?_cons_succ, List.set_cons_zero, List.set_cons_succ, Option.bind_some, Option.map_some, List.any_cons, List.any_nil, DW.isLst, tyIs, DW.isInt, DW.isBool, DW.isStr, DW.isTup, Bool.not_true, Bool.not_false, Bool.or_false, Bool.or_true, Bool.true_or, Bool.false_or, Bool.and_true, Bool.true_and, Bool.and_false, Bool.false_and, true_and, and_true, Tg.slots, tryR, retR, List.take_succ_cons, List.take_zero, List.length_cons, List.length_nil, List.append_nil, List.cons_append, List.nil_append, ixN0, ixN1, ixN2, forQ_nx, forQ_ct, forQ_bk, forQ_rt, whQ_nx, whQ_ct, whQ_bk, whQ_rt, atI0, atI1, atI2, atI3, forall_const, Bool.false_eq_true, false_and, and_false, not_false_eq_true, reduceCtorEq, false_implies, true_implies, eq_self_iff_true, Bool.true_eq_false, Nat.reduceAdd, Nat.zero_add, cn0, cn1, cn2, cn3, cn4, cn5, cn6, cn7, cn8, cn9, cn10, Int.reduceEq, Int.reduceLT, Int.reduceLE, Int.reduceSub, Int.reduceAdd, decide_true, decide_false])
local macro_rules | `(tactic| walk_at "st") => `(tactic| (refine W_st fun Q' hq => ?_; walk_at "ew"; (try simp only [hq.nx, hq.rt, hq.bk, hq.ct]); (try clear hq Q')))
local macro_rules | `(tactic| walk_at "run") => `(tactic| ((repeat walk_at "st"); (try walk_at "ew")))
local macro_rules | `(tactic| walk_at "ev0") => `(tactic| simp (config := { dsimp := false }) only [W_ok, W_exc, W_bad, ↓W_bind, ↓W_seq, seqQ_nx, seqQ_rt, seqQ_bk, seqQ_ct, W_chk, W_grd, W_opi, W_nox, W_cond, bind_ok, bind_exc, bind_bad, nox_ok, nox_bad, rc_t, rc_f, chk_true, chk_false, opt_some, opt_none, seq_nx, seq_rt, seq_bk, seq_ct, seq_exc, evN, evs, eva, evb, evo, evc, evp, exS, exB, esc, sto, stos, stoP, tgs, keepR, fzR, asBool, asOptInt, isiR, isxR, atrR, mthR, isMut, mutOk, mutR, mutF, NV.putF, NV.data, NV.data1, NV.dataS, NV.dataB, NV.dataR, NV.dat?, SV.data, SV.data1, NV.fz, isLstS, isDicS, bopF, copF, sq_self, eqF_ss, eqF_ii, eqF_bb, eqF_ln, eqF_tn, neF_ss, neF_ii, neF_bb, neF_ln, isN, idxF_t, idxF_l, atF, slcF, revF, biF, itF, isBor, items, iterF, avOf, isAv, List.map_cons, List.map_nil, List.all_cons, List.all_nil, List.getElem?_cons_zero, List.getElem?_cons_succ, List.set_cons_zero, List.set_cons_succ, Option.bind_some, Option.map_some, List.any_cons, List.any_nil, DW.isLst, tyIs, DW.isInt, DW.isBool, DW.isStr, DW.isTup, Bool.not_true, Bool.not_false, Bool.or_false, Bool.or_true, Bool.true_or, Bool.false_or, Bool.and_true, Bool.true_and, Bool.and_false, Bool.false_and, true_and, and_true, Tg.slots, mkExc, catches, tryR, retR, List.take_succ_cons, List.take_zero, List.length_cons, List.length_nil, List.append_nil, List.cons_append, List.nil_append, ixN0, ixN1, ixN2, forQ_nx, forQ_ct, forQ_bk, forQ_rt, whQ_nx, whQ_ct, whQ_bk, whQ_rt, atI0, atI1, atI2, atI3, forall_const, Bool.false_eq_true, false_and, and_false, not_false_eq_true, reduceCtorEq, false_implies, true_implies, eq_self_iff_true, Bool.true_eq_false, Nat.reduceAdd, Nat.zero_add, cn0, cn1, cn2, cn3, cn4, cn5, cn6, cn7, cn8, cn9, cn10, Int.reduceEq, Int.reduceLT, Int.reduceLE, Int.reduceSub, Int.reduceAdd, decide_true, decide_false])
local macro_rules | `(tactic| walk_at "ev1") => `(tactic| simp (config := { dsimp := false }) only [*, tgs, stos, sto, R.bind, bind_ok, W_bind, W_chk, Bool.not_false, true_and, chk_true, List.getElem?_cons_zero, List.getElem?_cons_succ, List.set_cons_zero, List.set_cons_succ, List.length_cons, List.length_nil, Nat.reduceAdd])
/-! ### bounds -/
theorem eq_sm {e : Eqn} (h : EqOk e) : Sm 107 4 (pr e) := by
  refine (Sm.tup (n := 53) (m := 3) (k := 2) (fun d hd => ?_) (by simp)).mono (by decide) (by decide)
  simp only [List.mem_cons, List.not_mem_nil, or_false] at hd
  rcases hd with rfl | rfl
  · exact h.1.sm.mono (by decide) (by decide)
  · exact h.2.sm.mono (by decide) (by decide)
theorem eqs_sm {l : List Eqn} (h : ∀ e ∈ l, EqOk e) : ∀ d ∈ l.map pr, Sm 107 4 d := fun d hd => by
  obtain ⟨e, he, rfl⟩ := List.mem_map.mp hd
  exact eq_sm (h e he)
theorem gr_sm {gs : List (List Eqn)} (h : GrOk gs) (hl : gs.length ≤ 100) : Sm 40000 6 (grD gs) := by
  refine (Sm.tup (n := 322) (m := 5) (k := 100) (fun d hd => ?_) (by rw [List.length_map]; exact hl)).mono (by decide) (by decide)
  obtain ⟨g, hg, rfl⟩ := List.mem_map.mp hd
  exact (Sm.tup (n := 107) (m := 4) (k := 3) (eqs_sm (h.ok g hg)) (by rw [List.length_map]; exact h.le g hg)).mono (by decide) (by decide)
theorem end_sm {gs : List (List Eqn)} (hg : ∀ g ∈ gs, ∀ e ∈ g, EqOk e) : ∀ {rows : List PyData} {known : List Eqn} {i : Int}, (∀ e ∈ known, EqOk e) → known.length + rows.length ≤ 100 → 0 ≤ i → i + rows.length ≤ 100 → Sm 20000 6 (endF (goF gs known i rows))
  | [], known, i, hk, hl, h0, h1 => by
    exact (Sm.tup (n := 107) (m := 4) (k := 100) (eqs_sm hk) (by rw [List.length_map]; exact hl)).mono (by decide) (by decide)
  | r :: rows, known, i, hk, hl, h0, h1 => by
    have hl : known.length + (rows.length + 1) ≤ 100 := hl
    have h1 : i + ((rows.length + 1 : Nat) : Int) ≤ 100 := h1
    cases hs : shownF gs known r with
    | none =>
      rw [go_none hs]
      refine (Sm.lst (n := 1) (m := 0) (k := 1) (fun d hd => ?_) (by simp)).mono (by decide) (by decide)
      cases List.mem_singleton.mp hd
      exact Sm.int (by omega) (by omega)
    | some e =>
      rw [go_some hs]
      exact end_sm hg (mem_snoc hk (shown_ok hg hk hs)) (by rw [List.length_append]; simp only [List.length_cons, List.length_nil]; omega) (by omega) (by omega)
structure VOk (v : PyData) : Prop where
  sm : Sm 500 5 v
  le : ∀ rows, v = .tuple rows → rows.length ≤ 100
theorem none_sm : Sm 1 0 PyData.none := ⟨by decide +kernel, by decide +kernel, by decide +kernel⟩
theorem ans_sm {gs : List (List Eqn)} {v : PyData} (hg : GrOk gs) (hv : VOk v) : Sm 20000 6 (ansF gs v) := by
  have key : Sm 20000 6 (.list [.none]) := by
    refine (Sm.lst (n := 1) (m := 0) (k := 1) (fun d hd => ?_) (by simp)).mono (by decide) (by decide)
    cases List.mem_singleton.mp hd
    exact none_sm
  cases v with
  | tuple rows =>
    have := hv.le rows rfl
    exact end_sm hg.ok (fun _ h => nomatch h) (by simp; omega) (by decide) (by omega)
  | _ => exact key
theorem rp_ans {gs : List (List Eqn)} {v : PyData} (hg : GrOk gs) (hv : VOk v) : biF .repr [ansF gs v] = some (.dat (.str (ansF gs v).shown)) := (ans_sm hg hv).repr (by decide) (by decide)
theorem rp_two {gs : List (List Eqn)} {v : PyData} (hg : GrOk gs) (hl : gs.length ≤ 100) (hv : VOk v) : biF .repr [.list [grD gs, v]] = some (.dat (.str (PyData.list [grD gs, v]).shown)) := by
  refine (Sm.lst (n := 40000) (m := 6) (k := 2) (fun d hd => ?_) (by simp)).repr (by decide) (by decide)
  simp only [List.mem_cons, List.not_mem_nil, or_false] at hd
  rcases hd with rfl | rfl
  · exact gr_sm hg hl
  · exact hv.sm.mono (by decide) (by decide)
theorem vok_tup {rows : List PyData} (hl : rows.length ≤ 100) (hr : ∀ r ∈ rows, RowOk r) : VOk (.tuple rows) := ⟨(Sm.tup (n := 4) (m := 2) (k := 100) hr hl).mono (by decide) (by decide), fun r e => by cases e; exact hl⟩
theorem vok_lst {rows : List PyData} (hl : rows.length ≤ 100) (hr : ∀ r ∈ rows, RowOk r) : VOk (.list rows) := ⟨(Sm.lst (n := 4) (m := 2) (k := 100) hr hl).mono (by decide) (by decide), fun r e => nomatch e⟩
theorem vok_one {rows : List PyData} (hl : rows.length ≤ 100) (hr : ∀ r ∈ rows, RowOk r) : VOk (.tuple [.tuple rows]) := by
  refine ⟨(Sm.tup (n := 401) (m := 3) (k := 1) (fun d hd => ?_) (by simp)).mono (by decide) (by decide), fun r e => by cases e; simp⟩
  cases List.mem_singleton.mp hd
  exact (Sm.tup (n := 4) (m := 2) (k := 100) hr hl).mono (by decide) (by decide)
theorem vok_none : VOk .none := ⟨none_sm.mono (by decide) (by decide), fun r e => nomatch e⟩
/-! ### calls of the law -/
theorem c_due {n : Nat} {gs : List (List Eqn)} {v : PyData} {ρ : Rho} {Q : NV → Rho → Prop} {E : Exc → Rho → Prop} (hg : GrOk gs) (hv : VOk v) (h1 : Q (.dat (ansF gs v)) ρ) (h2 : ∀ xs, ansF gs v = .list xs → Q (.lst xs) ρ) :
    W (callR (NV.call pg (n + 4)) "_law_due" [.dat (grD gs), .dat v] ρ) Q E := by
  refine W_callR _ _ rfl rfl (w_L_due hg.ok hv.le) (fun nv fin h => ?_) fun x fin h => h.elim
  obtain ⟨h, rfl⟩ := h
  rcases h with rfl | ⟨xs, rfl, e⟩
  · exact h1
  · exact h2 xs e
theorem c_told {n : Nat} {gs : List (List Eqn)} {v : PyData} {ρ : Rho} {Q : NV → Rho → Prop} {E : Exc → Rho → Prop} (hg : GrOk gs) (hv : VOk v) (h1 : Q (.dat (ansF gs v)) ρ) (h2 : ∀ xs, ansF gs v = .list xs → Q (.lst xs) ρ) :
    W (callR (NV.call pg (n + 5)) "_law_told" [.dat (grD gs), .dat v] ρ) Q E := by
  refine W_callR _ _ rfl rfl (w_L_told hg.ok hv.le) (fun nv fin h => ?_) fun x fin h => h.elim
  obtain ⟨h, rfl⟩ := h
  rcases h with rfl | ⟨xs, rfl, e⟩
  · exact h1
  · exact h2 xs e
theorem ib_n : isBor (some .no) = false := rfl
theorem ib_d {d : PyData} : isBor (some (.dat d)) = false := rfl
theorem ib_o {ds : List PyData} : isBor (some (.own false ds)) = false := rfl
theorem c_dueL {n : Nat} {gs : List (List Eqn)} {v : PyData} {ρ : Rho} {Q : NV → Rho → Prop} {E : Exc → Rho → Prop} {xs : List PyData} (hg : GrOk gs) (hv : VOk v) (hx : ansF gs v = .list xs) (h1 : Q (.dat (.list xs)) ρ) (h2 : Q (.lst xs) ρ) :
    W (callR (NV.call pg (n + 4)) "_law_due" [.dat (grD gs), .dat v] ρ) Q E := c_due hg hv (by rw [hx]; exact h1) fun ys hy => by cases hx.symm.trans hy; exact h2
theorem c_dueN {n : Nat} {gs : List (List Eqn)} {v : PyData} {ρ : Rho} {Q : NV → Rho → Prop} {E : Exc → Rho → Prop} (hg : GrOk gs) (hv : VOk v) (hx : ∀ xs, ansF gs v ≠ .list xs) (h1 : Q (.dat (ansF gs v)) ρ) :
    W (callR (NV.call pg (n + 4)) "_law_due" [.dat (grD gs), .dat v] ρ) Q E := c_due hg hv h1 fun ys hy => absurd hy (hx ys)
theorem c_toldL {n : Nat} {gs : List (List Eqn)} {v : PyData} {ρ : Rho} {Q : NV → Rho → Prop} {E : Exc → Rho → Prop} {xs : List PyData} (hg : GrOk gs) (hv : VOk v) (hx : ansF gs v = .list xs) (h1 : Q (.dat (.list xs)) ρ) (h2 : Q (.lst xs) ρ) :
    W (callR (NV.call pg (n + 5)) "_law_told" [.dat (grD gs), .dat v] ρ) Q E := c_told hg hv (by rw [hx]; exact h1) fun ys hy => by cases hx.symm.trans hy; exact h2
theorem c_toldN {n : Nat} {gs : List (List Eqn)} {v : PyData} {ρ : Rho} {Q : NV → Rho → Prop} {E : Exc → Rho → Prop} (hg : GrOk gs) (hv : VOk v) (hx : ∀ xs, ansF gs v ≠ .list xs) (h1 : Q (.dat (ansF gs v)) ρ) :
    W (callR (NV.call pg (n + 5)) "_law_told" [.dat (grD gs), .dat v] ρ) Q E := c_told hg hv h1 fun ys hy => absurd hy (hx ys)
local macro_rules | `(tactic| walk_at "ei") => `(tactic| simp (config := { dsimp := false }) only [*, W_ok, W_exc, W_bad, ↓W_bind, ↓W_seq, seqQ_nx, seqQ_rt, seqQ_bk, seqQ_ct, W_chk, W_grd, W_opi, W_nox, W_cond, bind_ok, bind_exc, bind_bad, nox_ok, nox_bad, rc_t, rc_f, chk_true, chk_false, opt_some, opt_none, seq_nx, seq_rt, seq_bk, seq_ct, seq_exc, evN, evs, eva, evb, evo, evc, evp, exS, exB, esc, sto, stos, stoP, tgs, keepR, fzR, asBool, asOptInt, isiR, isxR, atrR, mthR, isMut, mutOk, mutR, mutF, NV.putF, NV.data, NV.data1, NV.dataS, NV.dataB, NV.dataR, NV.dat?, SV.data, SV.data1, NV.fz, isLstS, isDicS, bopF, copF, sq_self, eqF_ss, eqF_ii, eqF_bb, eqF_ln, eqF_tn, neF_ss, neF_ii, neF_bb, neF_ln, isN, idxF_t, idxF_l, atF, slcF, revF,  itF, ib_n, ib_d, ib_o, items, iterF, avOf, isAv, List.map_cons, List.map_nil, List.all_cons, List.all_nil, List.getElem?_cons_zero, List.getElem?_cons_succ, List.set_cons_zero, List.set_cons_succ, Option.bind_some, Option.map_some, List.any_cons, List.any_nil, DW.isLst, tyIs, DW.isInt, DW.isBool, DW.isStr, DW.isTup, Bool.not_true, Bool.not_false, Bool.or_false, Bool.or_true, Bool.true_or, Bool.false_or, Bool.and_true, Bool.true_and, Bool.and_false, Bool.false_and, true_and, and_true, Tg.slots, mkExc, catches, tryR, retR, List.take_succ_cons, List.take_zero, List.length_cons, List.length_nil, List.append_nil, List.cons_append, List.nil_append, ixN0, ixN1, ixN2, forQ_nx, forQ_ct, forQ_bk, forQ_rt, whQ_nx, whQ_ct, whQ_bk, whQ_rt, atI0, atI1, atI2, atI3, forall_const, Bool.false_eq_true, false_and, and_false, not_false_eq_true, reduceCtorEq, false_implies, true_implies, eq_self_iff_true, Bool.true_eq_false, Nat.reduceAdd, Nat.zero_add, cn0, cn1, cn2, cn3, cn4, cn5, cn6, cn7, cn8, cn9, cn10, Int.reduceEq, Int.reduceLT, Int.reduceLE, Int.reduceSub, Int.reduceAdd, decide_true, decide_false])
def bodyI : List S := [.par [8, 9] [(.bi .repr [(.lst [(.loc 3), (.loc 7)])]), (.call "_law_due" [false, false] [(.loc 3), (.loc 7)])], .asg 10 (.call "_law_told" [false, false] [(.loc 3), (.loc 7)]), .ife (.or (.cmp .NotEq (.bi .repr [(.loc 10)]) (.bi .repr [(.loc 9)])) (.or (.cmp .NotEq (.bi .repr [(.call "_law_told" [false, false] [(.loc 3), (.loc 7)])]) (.bi .repr [(.loc 10)])) (.cmp .NotEq (.bi .repr [(.lst [(.loc 3), (.loc 7)])]) (.loc 8)))) [.ret (.cst (.bool false))] []]
theorem w_inner {n : Nat} {gs : List (List Eqn)} {v : PyData} {ns : List Int} {ds vals : List PyData} {t c : PyData} {s8 s9 s10 : SV} {Q : Fl → Rho → Prop} {E : Exc → Rho → Prop} (hg : GrOk gs) (hl : gs.length ≤ 100) (hv : VOk v) (b8 : isBor (some s8) = false) (b9 : isBor (some s9) = false) (b10 : isBor (some s10) = false)
    (hQ : ∀ s8 s9 s10, isBor (some s8) = false → isBor (some s9) = false → isBor (some s10) = false → Q .nx [.scr ns, .own false ds, .dat t, .dat (grD gs), .dat c, .dat (.list vals), .no, .dat v, s8, s9, s10]) :
    W (exB pg (NV.call pg (n + 20)) bodyI [.scr ns, .own false ds, .dat t, .dat (grD gs), .dat c, .dat (.list vals), .no, .dat v, s8, s9, s10]) Q E := by
  show W (exB pg _ (_ :: _) _) _ _
  have r2 := rp_two hg hl hv
  have ra := rp_ans hg hv
  by_cases hx : ∃ xs, ansF gs v = .list xs
  · obtain ⟨xs, hx⟩ := hx
    rw [hx] at ra
    refine W_st fun Q' hq => ?_
    walk_at "ei"
    refine c_dueL hg hv hx ?_ ?_
    all_goals
      walk_at "ei"
      rw [hq.nx]
      clear hq Q'
      refine W_st fun Q' hq => ?_
      walk_at "ei"
      refine c_toldL hg hv hx ?_ ?_
      all_goals
        walk_at "ei"
        rw [hq.nx]
        clear hq Q'
        refine W_st fun Q' hq => ?_
        walk_at "ei"
        refine c_toldL hg hv hx ?_ ?_
        all_goals
          walk_at "ei"
          rw [hq.nx]
          clear hq Q'
          walk_at "ei"
          try exact hQ _ _ _ rfl rfl rfl
  · have hx' : ∀ xs, ansF gs v ≠ .list xs := fun xs e => hx ⟨xs, e⟩
    clear hx
    refine W_st fun Q' hq => ?_
    walk_at "ei"
    refine c_dueN hg hv hx' ?_
    walk_at "ei"
    rw [hq.nx]
    clear hq Q'
    refine W_st fun Q' hq => ?_
    walk_at "ei"
    refine c_toldN hg hv hx' ?_
    walk_at "ei"
    rw [hq.nx]
    clear hq Q'
    refine W_st fun Q' hq => ?_
    walk_at "ei"
    refine c_toldN hg hv hx' ?_
    walk_at "ei"
    rw [hq.nx]
    clear hq Q'
    walk_at "ei"
    try exact hQ _ _ _ rfl rfl rfl
end K18
set_option maxHeartbeats 8000000
namespace K18
open PySem NV LW
local macro_rules | `(tactic| walk_at "ew") => `(tactic| simp (config := { dsimp := false }) only [*, r_num, r_lnum, r_var, isNum_eq, r_given, r_given2, sub1, enc_n, enc_s, swap_1, swap_2, in_0, in_1, in_2, in_3, in_4, mk_bad, cat_bad, isx_1, isx_2, atr_1, List.length_map, Option.isSome_none, Option.isSome_some, W_ok, W_exc, W_bad, ↓W_bind, ↓W_seq, seqQ_nx, seqQ_rt, seqQ_bk, seqQ_ct, W_chk, W_grd, W_opi, W_nox, W_cond, bind_ok, bind_exc, bind_bad, nox_ok, nox_bad, rc_t, rc_f, chk_true, chk_false, opt_some, opt_none, seq_nx, seq_rt, seq_bk, seq_ct, seq_exc, evN, evs, eva, evb, evo, evc, evp, exS, exB, esc, sto, stos, stoP, tgs, keepR, fzR, asBool, asOptInt, isiR, mthR, isMut, mutOk, mutR, mutF, NV.putF, NV.data, NV.data1, NV.dataS, NV.dataB, NV.dataR, NV.dat?, SV.data, SV.data1, NV.fz, isLstS, isDicS, bopF, copF, sq_self, eqF_ss, eqF_ii, eqF_bb, eqF_ln, eqF_tn, neF_ss, neF_ii, neF_bb, neF_ln, isN, idxF_t, idxF_l, atF, slcF, revF, biF, itF, isBor, items, iterF, avOf, isAv, List.map_cons, List.map_nil, List.all_cons, List.all_nil, List.getElem?_cons_zero, List.getElem?_cons_succ, List.set_cons_zero, List.set_cons_succ, Option.bind_some, Option.map_some, List.any_cons, List.any_nil, DW.isLst, tyIs, DW.isInt, DW.isBool, DW.isStr, DW.isTup, Bool.not_true, Bool.not_false, Bool.or_false, Bool.or_true, Bool.true_or, Bool.false_or, Bool.and_true, Bool.true_and, Bool.and_false, Bool.false_and, true_and, and_true, Tg.slots, tryR, retR, List.take_succ_cons, List.take_zero, List.length_cons, List.length_nil, List.append_nil, List.cons_append, List.nil_append, ixN0, ixN1, ixN2, forQ_nx, forQ_ct, forQ_bk, forQ_rt, whQ_nx, whQ_ct, whQ_bk, whQ_rt, atI0, atI1, atI2, atI3, forall_const, Bool.false_eq_true, false_and, and_false, not_false_eq_true, reduceCtorEq, false_implies, true_implies, eq_self_iff_true, Bool.true_eq_false, Nat.reduceAdd, Nat.zero_add, cn0, cn1, cn2, cn3, cn4, cn5, cn6, cn7, cn8, cn9, cn10, Int.reduceEq, Int.reduceLT, Int.reduceLE, Int.reduceSub, Int.reduceAdd, decide_true, decide_false])
local macro_rules | `(tactic| walk_at "st") => `(tactic| (refine W_st fun Q' hq => ?_; walk_at "ew"; (try simp only [hq.nx, hq.rt, hq.bk, hq.ct]); (try clear hq Q')))
local macro_rules | `(tactic| walk_at "run") => `(tactic| ((repeat walk_at "st"); (try walk_at "ew")))
local macro_rules | `(tactic| walk_at "ev0") => `(tactic| simp (config := { dsimp := false }) only [W_ok, W_exc, W_bad, ↓W_bind, ↓W_seq, seqQ_nx, seqQ_rt, seqQ_bk, seqQ_ct, W_chk, W_grd, W_opi, W_nox, W_cond, bind_ok, bind_exc, bind_bad, nox_ok, nox_bad, rc_t, rc_f, chk_true, chk_false, opt_some, opt_none, seq_nx, seq_rt, seq_bk, seq_ct, seq_exc, evN, evs, eva, evb, evo, evc, evp, exS, exB, esc, sto, stos, stoP, tgs, keepR, fzR, asBool, asOptInt, isiR, isxR, atrR, mthR, isMut, mutOk, mutR, mutF, NV.putF, NV.data, NV.data1, NV.dataS, NV.dataB, NV.dataR, NV.dat?, SV.data, SV.data1, NV.fz, isLstS, isDicS, bopF, copF, sq_self, eqF_ss, eqF_ii, eqF_bb, eqF_ln, eqF_tn, neF_ss, neF_ii, neF_bb, neF_ln, isN, idxF_t, idxF_l, atF, slcF, revF, biF, itF, isBor, items, iterF, avOf, isAv, List.map_cons, List.map_nil, List.all_cons, List.all_nil, List.getElem?_cons_zero, List.getElem?_cons_succ, List.set_cons_zero, List.set_cons_succ, Option.bind_some, Option.map_some, List.any_cons, List.any_nil, DW.isLst, tyIs, DW.isInt, DW.isBool, DW.isStr, DW.isTup, Bool.not_true, Bool.not_false, Bool.or_false, Bool.or_true, Bool.true_or, Bool.false_or, Bool.and_true, Bool.true_and, Bool.and_false, Bool.false_and, true_and, and_true, Tg.slots, mkExc, catches, tryR, retR, List.take_succ_cons, List.take_zero, List.length_cons, List.length_nil, List.append_nil, List.cons_append, List.nil_append, ixN0, ixN1, ixN2, forQ_nx, forQ_ct, forQ_bk, forQ_rt, whQ_nx, whQ_ct, whQ_bk, whQ_rt, atI0, atI1, atI2, atI3, forall_const, Bool.false_eq_true, false_and, and_false, not_false_eq_true, reduceCtorEq, false_implies, true_implies, eq_self_iff_true, Bool.true_eq_false, Nat.reduceAdd, Nat.zero_add, cn0, cn1, cn2, cn3, cn4, cn5, cn6, cn7, cn8, cn9, cn10, Int.reduceEq, Int.reduceLT, Int.reduceLE, Int.reduceSub, Int.reduceAdd, decide_true, decide_false])
local macro_rules | `(tactic| walk_at "ev1") => `(tactic| simp (config := { dsimp := false }) only [*, tgs, stos, sto, R.bind, bind_ok, W_bind, W_chk, Bool.not_false, true_and, chk_true, List.getElem?_cons_zero, List.getElem?_cons_succ, List.set_cons_zero, List.set_cons_succ, List.length_cons, List.length_nil, Nat.reduceAdd])
local macro_rules | `(tactic| walk_at "ej") => `(tactic| simp (config := { dsimp := false }) only [*, W_ok, W_exc, W_bad, ↓W_bind, ↓W_seq, seqQ_nx, seqQ_rt, seqQ_bk, seqQ_ct, W_chk, W_grd, W_opi, W_nox, W_cond, bind_ok, bind_exc, bind_bad, nox_ok, nox_bad, rc_t, rc_f, chk_true, chk_false, opt_some, opt_none, seq_nx, seq_rt, seq_bk, seq_ct, seq_exc, evN, evs, eva, evb, evo, evc, evp, exS, exB, esc, sto, stos, stoP, tgs, keepR, fzR, asBool, asOptInt, isiR, isxR, atrR, mthR, isMut, mutOk, mutR, mutF, NV.putF, NV.data, NV.data1, NV.dataS, NV.dataB, NV.dataR, NV.dat?, SV.data, SV.data1, NV.fz, isLstS, isDicS, bopF, copF, sq_self, eqF_ss, eqF_ii, eqF_bb, eqF_ln, eqF_tn, neF_ss, neF_ii, neF_bb, neF_ln, isN, idxF_t, idxF_l, atF, slcF, revF,  itF, biF, ib_n, ib_d, ib_o, items, iterF, avOf, isAv, List.map_cons, List.map_nil, List.all_cons, List.all_nil, List.getElem?_cons_zero, List.getElem?_cons_succ, List.set_cons_zero, List.set_cons_succ, Option.bind_some, Option.map_some, List.any_cons, List.any_nil, DW.isLst, tyIs, DW.isInt, DW.isBool, DW.isStr, DW.isTup, Bool.not_true, Bool.not_false, Bool.or_false, Bool.or_true, Bool.true_or, Bool.false_or, Bool.and_true, Bool.true_and, Bool.and_false, Bool.false_and, true_and, and_true, Tg.slots, mkExc, catches, tryR, retR, List.take_succ_cons, List.take_zero, List.length_cons, List.length_nil, List.append_nil, List.cons_append, List.nil_append, ixN0, ixN1, ixN2, forQ_nx, forQ_ct, forQ_bk, forQ_rt, whQ_nx, whQ_ct, whQ_bk, whQ_rt, atI0, atI1, atI2, atI3, forall_const, Bool.false_eq_true, false_and, and_false, not_false_eq_true, reduceCtorEq, false_implies, true_implies, eq_self_iff_true, Bool.true_eq_false, Nat.reduceAdd, Nat.zero_add, cn0, cn1, cn2, cn3, cn4, cn5, cn6, cn7, cn8, cn9, cn10, Int.reduceEq, Int.reduceLT, Int.reduceLE, Int.reduceSub, Int.reduceAdd, decide_true, decide_false])
theorem c_draws {n : Nat} {ns : List Int} {rest : Rho} {Q : NV → Rho → Prop} {E : Exc → Rho → Prop} (hl : ns.length ≤ 63) (h : ∀ ds, Dr ds → Q (.lst ds) (.scr ns :: rest)) : W (callR (NV.call pg (n + 1)) "_law_draws" [.ali 0] (.scr ns :: rest)) Q E := by
  refine W_callR _ (fun _ _ => False) rfl rfl (w_draws (G := pg) (n := n) lk_L_draws hl) (fun v fin hR => ?_) fun _ _ z => z.elim
  obtain ⟨ds, rfl, rfl, hd⟩ := hR
  exact h ds hd
def OI (ns : List Int) (ρ : Rho) : Prop := ∃ (ds : List PyData) (s2 s3 s4 s5 s7 s8 s9 s10 : SV), ρ = [.scr ns, .own false ds, s2, s3, s4, s5, .no, s7, s8, s9, s10] ∧ Dr ds ∧ isBor (some s2) = false ∧ isBor (some s3) = false ∧ isBor (some s4) = false ∧ isBor (some s5) = false ∧ isBor (some s7) = false ∧ isBor (some s8) = false ∧ isBor (some s9) = false ∧ isBor (some s10) = false
def II (ns : List Int) (gs : List (List Eqn)) (ds vals : List PyData) (t c : PyData) (rest : List PyData) (ρ : Rho) : Prop := ∃ (s7 s8 s9 s10 : SV), ρ = [.scr ns, .own false ds, .dat t, .dat (grD gs), .dat c, .dat (.list vals), .no, s7, s8, s9, s10] ∧ isBor (some s7) = false ∧ isBor (some s8) = false ∧ isBor (some s9) = false ∧ isBor (some s10) = false ∧ ∀ v ∈ rest, VOk v
theorem w_turn {n : Nat} {ns : List Int} {gs : List (List Eqn)} {ds vals rest : List PyData} {d c : PyData} {s7 s8 s9 s10 : SV} {Q' : Fl → Rho → Prop} (hg : GrOk gs) (l1 : gs.length ≤ 100) (hd : Dr ds) (hall : ∀ v ∈ vals, VOk v) (b7 : isBor (some s7) = false) (b8 : isBor (some s8) = false) (b9 : isBor (some s9) = false) (b10 : isBor (some s10) = false) :
    W (exB pg (NV.call pg (n + 20)) [.for_ (.nm 7) (.loc 5) bodyI] [.scr ns, .own false ds, .dat d, .dat (grD gs), .dat c, .own false vals, .no, s7, s8, s9, s10]) (fun fl ρ => forQ (fun _ ρ => OI ns ρ) rest Q' fl ρ) (fun _ _ => False) := by
  refine W_st fun Q1 hq => ?_
  walk_at "ej"
  refine W_for (II ns gs ds vals d c) ⟨_, _, _, _, rfl, b7, b8, b9, b10, hall⟩ (fun v rest ρ hI => ?_) (fun ρ hI => ?_)
  · clear b7 b8 b9 b10 hall hq
    obtain ⟨s7, s8, s9, s10, rfl, b7, b8, b9, b10, hall⟩ := hI
    have hv := hall v (List.mem_cons_self ..)
    have hr : ∀ v ∈ rest, VOk v := fun v h => hall v (List.mem_cons_of_mem _ h)
    clear hall
    walk_at "ev1"
    refine w_inner hg l1 hv b8 b9 b10 fun s8 s9 s10 b8 b9 b10 => ?_
    exact ⟨_, _, _, _, rfl, rfl, b8, b9, b10, hr⟩
  · clear b7 b8 b9 b10 hall
    obtain ⟨s7, s8, s9, s10, rfl, b7, b8, b9, b10, hall⟩ := hI
    rw [hq.nx]
    clear hq hall
    walk_at "ej"
    exact ⟨_, _, _, _, _, _, _, _, _, rfl, hd, rfl, rfl, rfl, rfl, b7, b8, b9, b10⟩
theorem w_law {n : Nat} {ns : List Int} (hl : ns.length ≤ 63) : W (NV.call pg (n + 21) "law" [.scr ns]) (fun nv _ => nv = .dat (.bool true)) (fun _ _ => False) := by
  refine W_call (np := 1) (nl := 11) lk_law rfl ?_
  show W (exB pg (NV.call pg (n + 20)) (_ :: _) [.scr ns, .no, .no, .no, .no, .no, .no, .no, .no, .no, .no]) _ _
  refine W_st fun Q' hq => ?_
  walk_at "ej"
  refine c_draws hl fun ds hd => ?_
  walk_at "ej"
  rw [hq.nx]
  clear hq Q'
  refine W_st fun Q' hq => ?_
  walk_at "ej"
  refine ⟨small_of (by decide) (by decide), ?_⟩
  refine W_for (fun _ ρ => OI ns ρ) ⟨ds, _, _, _, _, _, _, _, _, rfl, hd, rfl, rfl, rfl, rfl, rfl, rfl, rfl, rfl⟩ (fun d rest ρ hI => ?_) (fun ρ hI => ?_)
  · clear hd ds hl
    obtain ⟨ds, s2, s3, s4, s5, s7, s8, s9, s10, rfl, hd, b2, b3, b4, b5, b7, b8, b9, b10⟩ := hI
    clear hq
    walk_at "ev1"
    refine W_st fun Q1 hq => ?_
    walk_at "ej"
    refine c_nx rfl hd (by decide) (by decide) fun m ds1 hd1 m0 m1 => ?_
    walk_at "ej"
    refine c_nx rfl hd1 (by decide) (by decide) fun k ds2 hd2 k0 k1 => ?_
    walk_at "ej"
    refine c_groups rfl (by omega) (by omega) (by omega) (by omega) hd2 fun gs ds3 hd3 hg hgl => ?_
    have l0 : 0 < gs.length := by omega
    have l1 : gs.length ≤ 100 := by omega
    clear hgl hd hd1 hd2
    walk_at "ej"
    rw [hq.nx]
    clear hq Q1
    refine W_st fun Q1 hq => ?_
    walk_at "ej"
    refine c_chn rfl hg l0 l1 hd3 fun rows ds4 hd4 r18 hr => ?_
    clear hd3
    walk_at "ej"
    rw [hq.nx]
    clear hq Q1
    refine W_st fun Q1 hq => ?_
    walk_at "ej"
    refine c_spoilt rfl hg l0 l1 (by omega) hr hd4 fun rows2 ds5 hd5 r37 hr2 => ?_
    clear hd4
    walk_at "ej"
    rw [hq.nx]
    clear hq Q1
    refine W_st fun Q1 hq => ?_
    walk_at "ej"
    refine ⟨small_of (by decide) (by decide), by rfl, ?_⟩
    refine W_comp (fun rest acc ρ => ∃ ds', ρ = [SV.scr ns, .own false ds', .dat d, .dat (grD gs), .dat (.tuple rows), .own false [.tuple rows, .tuple rows2, .list rows, .none, .tuple [], .tuple [.tuple rows]], .no, s7, s8, s9, s10] ∧ Dr ds' ∧ acc.length + rest.length = 6 ∧ ∀ v ∈ acc, VOk v) (fun d rest acc ρ hI => ?_) (fun acc ρ hI => ?_) ⟨ds5, rfl, hd5, rfl, fun _ h => nomatch h⟩
    · obtain ⟨ds', rfl, hd', hl, ha⟩ := hI
      clear hq
      walk_at "ev0"
      refine c_spoilt rfl hg l0 l1 (by omega) hr hd' fun rows3 ds6 hd6 r3 hr3 => ?_
      walk_at "ev0"
      refine ⟨ds6, rfl, hd6, ?_, mem_snoc ha (vok_tup (by omega) hr3)⟩
      rw [List.length_append]
      simp only [List.length_cons, List.length_nil] at hl ⊢
      omega
    · obtain ⟨ds', rfl, hd', hl, ha⟩ := hI
      have h6 : acc.length = 6 := hl
      clear hl
      have hlen : ∀ x : PyData, VOk x → ∀ v ∈ [PyData.tuple rows, .tuple rows2, .list rows, .none, .tuple [], .tuple [.tuple rows]] ++ acc ++ [x], VOk v := fun x hx => by
        refine mem_snoc (fun v hv => ?_) hx
        rcases List.mem_append.mp hv with hv | hv
        · simp only [List.mem_cons, List.not_mem_nil, or_false] at hv
          rcases hv with rfl | rfl | rfl | rfl | rfl | rfl
          · exact vok_tup (by omega) hr
          · exact vok_tup (by omega) hr2
          · exact vok_lst (by omega) hr
          · exact vok_none
          · exact vok_tup (by decide) fun _ h => nomatch h
          · exact vok_one (by omega) hr
        · exact ha v hv
      clear ha
      walk_at "ej"
      rw [hq.nx]
      clear hq Q1
      refine ⟨by decide +kernel, ?_⟩
      refine W_st fun Q1 hq => ?_
      walk_at "ej"
      refine c_spoilt rfl hg l0 l1 (by omega) hr2 hd' fun rows4 ds7 hd7 r4 hr4 => ?_
      have hall := hlen _ (vok_tup (rows := rows4) (by omega) hr4)
      clear hlen
      walk_at "ej"
      rw [hq.nx]
      clear hq Q1
      refine ⟨by decide +kernel, ?_⟩
      exact w_turn hg l1 hd7 hall b7 b8 b9 b10
  · rw [hq.nx]
    clear hq Q'
    obtain ⟨ds, s2, s3, s4, s5, s7, s8, s9, s10, rfl, hd, b2, b3, b4, b5, b7, b8, b9, b10⟩ := hI
    refine W_st fun Q' hq => ?_
    walk_at "ej"
    rw [hq.rt]
    rfl
theorem law_true : ∀ ns : List Int, ns.length ≤ 63 → SN.fsOf (NV.call pg 21) "law" [.scr ns] (fun nv _ => nv = .dat (.bool true)) (fun _ _ => False) := fun ns h => w_law (n := 0) h
end K18
set_option maxHeartbeats 8000000
namespace K18
open PySem L2 NV SN
open DW (Df df_mk)
theorem def_ok {K : PySem.W.Frag} {mg : Str → Option Value} (d1 : Df K mg "is_number" s_is_number ["value", "many"]) (d2 : Df K mg "is_variable" s_is_variable ["shape"]) (d3 : Df K mg "are_alike" s_are_alike ["one", "other"]) (d4 : Df K mg "given_by" s_given_by ["groups", "row"]) (d5 : Df K mg "shown_by" s_shown_by ["groups", "known", "row"]) (d6 : Df K mg "joined" s_joined ["known", "equation", "number"]) (d7 : Df K mg "chain_shows" s_chain_shows ["groups", "value"]) (d8 : Df K mg "_law_draws" s_L_draws ["_law_script"]) (d9 : Df K mg "_law_next" s_L_next ["_law_drawn", "_law_many"]) (d10 : Df K mg "_law_one" s_L_one ["_law_drawn", "_law_items"]) (d11 : Df K mg "_law_shapes" s_L_shapes ["_law_drawn", "_law_many", "_law_deep"]) (d12 : Df K mg "_law_groups" s_L_groups ["_law_drawn", "_law_many", "_law_count"]) (d13 : Df K mg "_law_number" s_L_number ["_law_value", "_law_many"]) (d14 : Df K mg "_law_tuples" s_L_tuples ["_law_one_here", "_law_other"]) (d15 : Df K mg "_law_two" s_L_two ["_law_known", "_law_row"]) (d16 : Df K mg "_law_shown" s_L_shown ["_law_groups_here", "_law_known", "_law_row"]) (d17 : Df K mg "_law_sides" s_L_sides ["_law_drawn", "_law_many"]) (d18 : Df K mg "_law_due" s_L_due ["_law_groups_here", "_law_value"]) (d19 : Df K mg "_law_told" s_L_told ["_law_groups_here", "_law_value"]) (d20 : Df K mg "_law_tried" s_L_tried ["_law_drawn", "_law_groups_here", "_law_many"]) (d21 : Df K mg "_law_chain" s_L_chain ["_law_drawn", "_law_groups_here"]) (d22 : Df K mg "_law_spoilt" s_L_spoilt ["_law_drawn", "_law_groups_here", "_law_chain_here"]) (d23 : Df K mg "law" s_law ["_law_script"]) : ∀ x d, pg.fns.lookup x = some d → DefOk tp pg K mg x d := by
  intro x d h
  have h := PySem.mem_of_lookup h
  simp only [pg, List.mem_cons, Prod.mk.injEq, List.not_mem_nil, or_false] at h
  rcases h with ⟨rfl, rfl⟩ | ⟨rfl, rfl⟩ | ⟨rfl, rfl⟩ | ⟨rfl, rfl⟩ | ⟨rfl, rfl⟩ | ⟨rfl, rfl⟩ | ⟨rfl, rfl⟩ | ⟨rfl, rfl⟩ | ⟨rfl, rfl⟩ | ⟨rfl, rfl⟩ | ⟨rfl, rfl⟩ | ⟨rfl, rfl⟩ | ⟨rfl, rfl⟩ | ⟨rfl, rfl⟩ | ⟨rfl, rfl⟩ | ⟨rfl, rfl⟩ | ⟨rfl, rfl⟩ | ⟨rfl, rfl⟩ | ⟨rfl, rfl⟩ | ⟨rfl, rfl⟩ | ⟨rfl, rfl⟩ | ⟨rfl, rfl⟩ | ⟨rfl, rfl⟩
  · exact ⟨s_is_number, n_is_number, ["value", "many"], 60, 60, d1, sc_is_number, rfl, rfl, ck_is_number⟩
  · exact ⟨s_is_variable, n_is_variable, ["shape"], 60, 60, d2, sc_is_variable, rfl, rfl, ck_is_variable⟩
  · exact ⟨s_are_alike, n_are_alike, ["one", "other"], 60, 60, d3, sc_are_alike, rfl, rfl, ck_are_alike⟩
  · exact ⟨s_given_by, n_given_by, ["groups", "row"], 60, 60, d4, sc_given_by, rfl, rfl, ck_given_by⟩
  · exact ⟨s_shown_by, n_shown_by, ["groups", "known", "row"], 60, 60, d5, sc_shown_by, rfl, rfl, ck_shown_by⟩
  · exact ⟨s_joined, n_joined, ["known", "equation", "number"], 60, 60, d6, sc_joined, rfl, rfl, ck_joined⟩
  · exact ⟨s_chain_shows, n_chain_shows, ["groups", "value"], 60, 60, d7, sc_chain_shows, rfl, rfl, ck_chain_shows⟩
  · exact ⟨s_L_draws, n_L_draws, ["_law_script"], 60, 60, d8, sc_L_draws, rfl, rfl, ck_L_draws⟩
  · exact ⟨s_L_next, n_L_next, ["_law_drawn", "_law_many"], 60, 60, d9, sc_L_next, rfl, rfl, ck_L_next⟩
  · exact ⟨s_L_one, n_L_one, ["_law_drawn", "_law_items"], 60, 60, d10, sc_L_one, rfl, rfl, ck_L_one⟩
  · exact ⟨s_L_shapes, n_L_shapes, ["_law_drawn", "_law_many", "_law_deep"], 60, 60, d11, sc_L_shapes, rfl, rfl, ck_L_shapes⟩
  · exact ⟨s_L_groups, n_L_groups, ["_law_drawn", "_law_many", "_law_count"], 60, 60, d12, sc_L_groups, rfl, rfl, ck_L_groups⟩
  · exact ⟨s_L_number, n_L_number, ["_law_value", "_law_many"], 60, 60, d13, sc_L_number, rfl, rfl, ck_L_number⟩
  · exact ⟨s_L_tuples, n_L_tuples, ["_law_one_here", "_law_other"], 60, 60, d14, sc_L_tuples, rfl, rfl, ck_L_tuples⟩
  · exact ⟨s_L_two, n_L_two, ["_law_known", "_law_row"], 60, 60, d15, sc_L_two, rfl, rfl, ck_L_two⟩
  · exact ⟨s_L_shown, n_L_shown, ["_law_groups_here", "_law_known", "_law_row"], 60, 60, d16, sc_L_shown, rfl, rfl, ck_L_shown⟩
  · exact ⟨s_L_sides, n_L_sides, ["_law_drawn", "_law_many"], 60, 60, d17, sc_L_sides, rfl, rfl, ck_L_sides⟩
  · exact ⟨s_L_due, n_L_due, ["_law_groups_here", "_law_value"], 60, 60, d18, sc_L_due, rfl, rfl, ck_L_due⟩
  · exact ⟨s_L_told, n_L_told, ["_law_groups_here", "_law_value"], 60, 60, d19, sc_L_told, rfl, rfl, ck_L_told⟩
  · exact ⟨s_L_tried, n_L_tried, ["_law_drawn", "_law_groups_here", "_law_many"], 60, 60, d20, sc_L_tried, rfl, rfl, ck_L_tried⟩
  · exact ⟨s_L_chain, n_L_chain, ["_law_drawn", "_law_groups_here"], 60, 60, d21, sc_L_chain, rfl, rfl, ck_L_chain⟩
  · exact ⟨s_L_spoilt, n_L_spoilt, ["_law_drawn", "_law_groups_here", "_law_chain_here"], 60, 60, d22, sc_L_spoilt, rfl, rfl, ck_L_spoilt⟩
  · exact ⟨s_law, n_law, ["_law_script"], 60, 60, d23, sc_law, rfl, rfl, ck_law⟩
theorem fns_ok : ∀ x, tp.fns.contains x = true → (pg.fns.lookup x).isSome = true := by
  intro x h
  have h := List.contains_iff_mem.mp h
  simp only [tp, List.mem_cons, List.not_mem_nil, or_false] at h
  rcases h with rfl | rfl | rfl | rfl | rfl | rfl | rfl | rfl | rfl | rfl | rfl | rfl | rfl | rfl | rfl | rfl | rfl | rfl | rfl | rfl | rfl | rfl | rfl <;> rfl
theorem kit_ref {K : PySem.W.Frag} {k k2 : Addr} {b : Bool} (hd : PySem.W.hasDictIn K k2 = true) (ht : PySem.W.typeIn K (.ref k2) = some (.type "type")) (h : PySem.W.subIn K (.ref k) (.ref k2) = some b) (hb : k = k2 → b = true) : PySem.W.kitOne K (.ref k) (.ref k2) = some b := by
  unfold PySem.W.kitOne
  split
  · rename_i e
    rw [hb (Value.ref.inj (beq_iff_eq.mp e))]
  · unfold PySem.W.kitCls
    obtain ⟨cd, hc, _⟩ := PySem.W.any_some hd
    have e2 : ((PySem.W.clsIn K k2).isSome && PySem.W.typeIn K (.ref k2) == some (.type "type")) = true := by rw [hc, ht]; rfl
    simp only [e2, if_true]
    exact h
section
theorem fin {P : Program} {w : World} {K : PySem.W.Frag} {h : Heap} {mg : Str → Option Value} (X : K.In h) (G : h.Ns mainGlobals mg)
    {f1 : Addr} {od1 an1 : Option Addr} {sl1 : Array (Option Value)} {oc1 kV1 dc1 pm1 cd1 ct1 : Value}
    {f2 : Addr} {od2 an2 : Option Addr} {sl2 : Array (Option Value)} {oc2 kV2 dc2 pm2 cd2 ct2 : Value}
    {f3 : Addr} {od3 an3 : Option Addr} {sl3 : Array (Option Value)} {oc3 kV3 dc3 pm3 cd3 ct3 : Value}
    {f4 : Addr} {od4 an4 : Option Addr} {sl4 : Array (Option Value)} {oc4 kV4 dc4 pm4 cd4 ct4 : Value}
    {f5 : Addr} {od5 an5 : Option Addr} {sl5 : Array (Option Value)} {oc5 kV5 dc5 pm5 cd5 ct5 : Value}
    {f6 : Addr} {od6 an6 : Option Addr} {sl6 : Array (Option Value)} {oc6 kV6 dc6 pm6 cd6 ct6 : Value}
    {f7 : Addr} {od7 an7 : Option Addr} {sl7 : Array (Option Value)} {oc7 kV7 dc7 pm7 cd7 ct7 : Value}
    {f8 : Addr} {od8 an8 : Option Addr} {sl8 : Array (Option Value)} {oc8 kV8 dc8 pm8 cd8 ct8 : Value}
    {f9 : Addr} {od9 an9 : Option Addr} {sl9 : Array (Option Value)} {oc9 kV9 dc9 pm9 cd9 ct9 : Value}
    {f10 : Addr} {od10 an10 : Option Addr} {sl10 : Array (Option Value)} {oc10 kV10 dc10 pm10 cd10 ct10 : Value}
    {f11 : Addr} {od11 an11 : Option Addr} {sl11 : Array (Option Value)} {oc11 kV11 dc11 pm11 cd11 ct11 : Value}
    {f12 : Addr} {od12 an12 : Option Addr} {sl12 : Array (Option Value)} {oc12 kV12 dc12 pm12 cd12 ct12 : Value}
    {f13 : Addr} {od13 an13 : Option Addr} {sl13 : Array (Option Value)} {oc13 kV13 dc13 pm13 cd13 ct13 : Value}
    {f14 : Addr} {od14 an14 : Option Addr} {sl14 : Array (Option Value)} {oc14 kV14 dc14 pm14 cd14 ct14 : Value}
    {f15 : Addr} {od15 an15 : Option Addr} {sl15 : Array (Option Value)} {oc15 kV15 dc15 pm15 cd15 ct15 : Value}
    {f16 : Addr} {od16 an16 : Option Addr} {sl16 : Array (Option Value)} {oc16 kV16 dc16 pm16 cd16 ct16 : Value}
    {f17 : Addr} {od17 an17 : Option Addr} {sl17 : Array (Option Value)} {oc17 kV17 dc17 pm17 cd17 ct17 : Value}
    {f18 : Addr} {od18 an18 : Option Addr} {sl18 : Array (Option Value)} {oc18 kV18 dc18 pm18 cd18 ct18 : Value}
    {f19 : Addr} {od19 an19 : Option Addr} {sl19 : Array (Option Value)} {oc19 kV19 dc19 pm19 cd19 ct19 : Value}
    {f20 : Addr} {od20 an20 : Option Addr} {sl20 : Array (Option Value)} {oc20 kV20 dc20 pm20 cd20 ct20 : Value}
    {f21 : Addr} {od21 an21 : Option Addr} {sl21 : Array (Option Value)} {oc21 kV21 dc21 pm21 cd21 ct21 : Value}
    {f22 : Addr} {od22 an22 : Option Addr} {sl22 : Array (Option Value)} {oc22 kV22 dc22 pm22 cd22 ct22 : Value}
    {f23 : Addr} {od23 an23 : Option Addr} {sl23 : Array (Option Value)} {oc23 kV23 dc23 pm23 cd23 ct23 : Value}
    {t1 : Tok}
    {t2 : Tok}
    {t3 : Tok}
    {t4 : Tok}
    {q1 : Addr}
    {q2 : Addr}
    {q3 : Addr}
    {xn3 xq3 : Str} {xN3 xI3 : Addr} {xbs3 xbm3 xsub3 : List Value} {xsn3 : List Str} {xab3 : Bool} {xcol3 : Option Bool} {xdd3 : Option Addr} {x03 x13 x23 x33 x53 : Option Value} {iod3 ian3 : Option Addr} {isl3 : Array (Option Value)} {ioc3 ikV3 idc3 ipm3 icd3 ict3 : Value}
    (a1 : PySem.W.nsIn K mainGlobals "is_number" = some (some (.ref f1)))
    (l1 : K.lookup f1 = some ⟨oc1, od1, .func (PySem.W.fnOf "is_number" "is_number" (defArgs s_is_number) (defBody s_is_number) (defScope s_is_number) .none kV1 dc1 pm1 an1 cd1 ct1), sl1⟩)
    (c1 : PySem.W.codeIn K cd1 "is_number" = true)
    (k1 : PySem.W.keepIn K (.ref f1) = true)
    (a2 : PySem.W.nsIn K mainGlobals "is_variable" = some (some (.ref f2)))
    (l2 : K.lookup f2 = some ⟨oc2, od2, .func (PySem.W.fnOf "is_variable" "is_variable" (defArgs s_is_variable) (defBody s_is_variable) (defScope s_is_variable) .none kV2 dc2 pm2 an2 cd2 ct2), sl2⟩)
    (c2 : PySem.W.codeIn K cd2 "is_variable" = true)
    (k2 : PySem.W.keepIn K (.ref f2) = true)
    (a3 : PySem.W.nsIn K mainGlobals "are_alike" = some (some (.ref f3)))
    (l3 : K.lookup f3 = some ⟨oc3, od3, .func (PySem.W.fnOf "are_alike" "are_alike" (defArgs s_are_alike) (defBody s_are_alike) (defScope s_are_alike) .none kV3 dc3 pm3 an3 cd3 ct3), sl3⟩)
    (c3 : PySem.W.codeIn K cd3 "are_alike" = true)
    (k3 : PySem.W.keepIn K (.ref f3) = true)
    (a4 : PySem.W.nsIn K mainGlobals "given_by" = some (some (.ref f4)))
    (l4 : K.lookup f4 = some ⟨oc4, od4, .func (PySem.W.fnOf "given_by" "given_by" (defArgs s_given_by) (defBody s_given_by) (defScope s_given_by) .none kV4 dc4 pm4 an4 cd4 ct4), sl4⟩)
    (c4 : PySem.W.codeIn K cd4 "given_by" = true)
    (k4 : PySem.W.keepIn K (.ref f4) = true)
    (a5 : PySem.W.nsIn K mainGlobals "shown_by" = some (some (.ref f5)))
    (l5 : K.lookup f5 = some ⟨oc5, od5, .func (PySem.W.fnOf "shown_by" "shown_by" (defArgs s_shown_by) (defBody s_shown_by) (defScope s_shown_by) .none kV5 dc5 pm5 an5 cd5 ct5), sl5⟩)
    (c5 : PySem.W.codeIn K cd5 "shown_by" = true)
    (k5 : PySem.W.keepIn K (.ref f5) = true)
    (a6 : PySem.W.nsIn K mainGlobals "joined" = some (some (.ref f6)))
    (l6 : K.lookup f6 = some ⟨oc6, od6, .func (PySem.W.fnOf "joined" "joined" (defArgs s_joined) (defBody s_joined) (defScope s_joined) .none kV6 dc6 pm6 an6 cd6 ct6), sl6⟩)
    (c6 : PySem.W.codeIn K cd6 "joined" = true)
    (k6 : PySem.W.keepIn K (.ref f6) = true)
    (a7 : PySem.W.nsIn K mainGlobals "chain_shows" = some (some (.ref f7)))
    (l7 : K.lookup f7 = some ⟨oc7, od7, .func (PySem.W.fnOf "chain_shows" "chain_shows" (defArgs s_chain_shows) (defBody s_chain_shows) (defScope s_chain_shows) .none kV7 dc7 pm7 an7 cd7 ct7), sl7⟩)
    (c7 : PySem.W.codeIn K cd7 "chain_shows" = true)
    (k7 : PySem.W.keepIn K (.ref f7) = true)
    (a8 : PySem.W.nsIn K mainGlobals "_law_draws" = some (some (.ref f8)))
    (l8 : K.lookup f8 = some ⟨oc8, od8, .func (PySem.W.fnOf "_law_draws" "_law_draws" (defArgs s_L_draws) (defBody s_L_draws) (defScope s_L_draws) .none kV8 dc8 pm8 an8 cd8 ct8), sl8⟩)
    (c8 : PySem.W.codeIn K cd8 "_law_draws" = true)
    (k8 : PySem.W.keepIn K (.ref f8) = true)
    (a9 : PySem.W.nsIn K mainGlobals "_law_next" = some (some (.ref f9)))
    (l9 : K.lookup f9 = some ⟨oc9, od9, .func (PySem.W.fnOf "_law_next" "_law_next" (defArgs s_L_next) (defBody s_L_next) (defScope s_L_next) .none kV9 dc9 pm9 an9 cd9 ct9), sl9⟩)
    (c9 : PySem.W.codeIn K cd9 "_law_next" = true)
    (k9 : PySem.W.keepIn K (.ref f9) = true)
    (a10 : PySem.W.nsIn K mainGlobals "_law_one" = some (some (.ref f10)))
    (l10 : K.lookup f10 = some ⟨oc10, od10, .func (PySem.W.fnOf "_law_one" "_law_one" (defArgs s_L_one) (defBody s_L_one) (defScope s_L_one) .none kV10 dc10 pm10 an10 cd10 ct10), sl10⟩)
    (c10 : PySem.W.codeIn K cd10 "_law_one" = true)
    (k10 : PySem.W.keepIn K (.ref f10) = true)
    (a11 : PySem.W.nsIn K mainGlobals "_law_shapes" = some (some (.ref f11)))
    (l11 : K.lookup f11 = some ⟨oc11, od11, .func (PySem.W.fnOf "_law_shapes" "_law_shapes" (defArgs s_L_shapes) (defBody s_L_shapes) (defScope s_L_shapes) .none kV11 dc11 pm11 an11 cd11 ct11), sl11⟩)
    (c11 : PySem.W.codeIn K cd11 "_law_shapes" = true)
    (k11 : PySem.W.keepIn K (.ref f11) = true)
    (a12 : PySem.W.nsIn K mainGlobals "_law_groups" = some (some (.ref f12)))
    (l12 : K.lookup f12 = some ⟨oc12, od12, .func (PySem.W.fnOf "_law_groups" "_law_groups" (defArgs s_L_groups) (defBody s_L_groups) (defScope s_L_groups) .none kV12 dc12 pm12 an12 cd12 ct12), sl12⟩)
    (c12 : PySem.W.codeIn K cd12 "_law_groups" = true)
    (k12 : PySem.W.keepIn K (.ref f12) = true)
    (a13 : PySem.W.nsIn K mainGlobals "_law_number" = some (some (.ref f13)))
    (l13 : K.lookup f13 = some ⟨oc13, od13, .func (PySem.W.fnOf "_law_number" "_law_number" (defArgs s_L_number) (defBody s_L_number) (defScope s_L_number) .none kV13 dc13 pm13 an13 cd13 ct13), sl13⟩)
    (c13 : PySem.W.codeIn K cd13 "_law_number" = true)
    (k13 : PySem.W.keepIn K (.ref f13) = true)
    (a14 : PySem.W.nsIn K mainGlobals "_law_tuples" = some (some (.ref f14)))
    (l14 : K.lookup f14 = some ⟨oc14, od14, .func (PySem.W.fnOf "_law_tuples" "_law_tuples" (defArgs s_L_tuples) (defBody s_L_tuples) (defScope s_L_tuples) .none kV14 dc14 pm14 an14 cd14 ct14), sl14⟩)
    (c14 : PySem.W.codeIn K cd14 "_law_tuples" = true)
    (k14 : PySem.W.keepIn K (.ref f14) = true)
    (a15 : PySem.W.nsIn K mainGlobals "_law_two" = some (some (.ref f15)))
    (l15 : K.lookup f15 = some ⟨oc15, od15, .func (PySem.W.fnOf "_law_two" "_law_two" (defArgs s_L_two) (defBody s_L_two) (defScope s_L_two) .none kV15 dc15 pm15 an15 cd15 ct15), sl15⟩)
    (c15 : PySem.W.codeIn K cd15 "_law_two" = true)
    (k15 : PySem.W.keepIn K (.ref f15) = true)
    (a16 : PySem.W.nsIn K mainGlobals "_law_shown" = some (some (.ref f16)))
    (l16 : K.lookup f16 = some ⟨oc16, od16, .func (PySem.W.fnOf "_law_shown" "_law_shown" (defArgs s_L_shown) (defBody s_L_shown) (defScope s_L_shown) .none kV16 dc16 pm16 an16 cd16 ct16), sl16⟩)
    (c16 : PySem.W.codeIn K cd16 "_law_shown" = true)
    (k16 : PySem.W.keepIn K (.ref f16) = true)
    (a17 : PySem.W.nsIn K mainGlobals "_law_sides" = some (some (.ref f17)))
    (l17 : K.lookup f17 = some ⟨oc17, od17, .func (PySem.W.fnOf "_law_sides" "_law_sides" (defArgs s_L_sides) (defBody s_L_sides) (defScope s_L_sides) .none kV17 dc17 pm17 an17 cd17 ct17), sl17⟩)
    (c17 : PySem.W.codeIn K cd17 "_law_sides" = true)
    (k17 : PySem.W.keepIn K (.ref f17) = true)
    (a18 : PySem.W.nsIn K mainGlobals "_law_due" = some (some (.ref f18)))
    (l18 : K.lookup f18 = some ⟨oc18, od18, .func (PySem.W.fnOf "_law_due" "_law_due" (defArgs s_L_due) (defBody s_L_due) (defScope s_L_due) .none kV18 dc18 pm18 an18 cd18 ct18), sl18⟩)
    (c18 : PySem.W.codeIn K cd18 "_law_due" = true)
    (k18 : PySem.W.keepIn K (.ref f18) = true)
    (a19 : PySem.W.nsIn K mainGlobals "_law_told" = some (some (.ref f19)))
    (l19 : K.lookup f19 = some ⟨oc19, od19, .func (PySem.W.fnOf "_law_told" "_law_told" (defArgs s_L_told) (defBody s_L_told) (defScope s_L_told) .none kV19 dc19 pm19 an19 cd19 ct19), sl19⟩)
    (c19 : PySem.W.codeIn K cd19 "_law_told" = true)
    (k19 : PySem.W.keepIn K (.ref f19) = true)
    (a20 : PySem.W.nsIn K mainGlobals "_law_tried" = some (some (.ref f20)))
    (l20 : K.lookup f20 = some ⟨oc20, od20, .func (PySem.W.fnOf "_law_tried" "_law_tried" (defArgs s_L_tried) (defBody s_L_tried) (defScope s_L_tried) .none kV20 dc20 pm20 an20 cd20 ct20), sl20⟩)
    (c20 : PySem.W.codeIn K cd20 "_law_tried" = true)
    (k20 : PySem.W.keepIn K (.ref f20) = true)
    (a21 : PySem.W.nsIn K mainGlobals "_law_chain" = some (some (.ref f21)))
    (l21 : K.lookup f21 = some ⟨oc21, od21, .func (PySem.W.fnOf "_law_chain" "_law_chain" (defArgs s_L_chain) (defBody s_L_chain) (defScope s_L_chain) .none kV21 dc21 pm21 an21 cd21 ct21), sl21⟩)
    (c21 : PySem.W.codeIn K cd21 "_law_chain" = true)
    (k21 : PySem.W.keepIn K (.ref f21) = true)
    (a22 : PySem.W.nsIn K mainGlobals "_law_spoilt" = some (some (.ref f22)))
    (l22 : K.lookup f22 = some ⟨oc22, od22, .func (PySem.W.fnOf "_law_spoilt" "_law_spoilt" (defArgs s_L_spoilt) (defBody s_L_spoilt) (defScope s_L_spoilt) .none kV22 dc22 pm22 an22 cd22 ct22), sl22⟩)
    (c22 : PySem.W.codeIn K cd22 "_law_spoilt" = true)
    (k22 : PySem.W.keepIn K (.ref f22) = true)
    (a23 : PySem.W.nsIn K mainGlobals "law" = some (some (.ref f23)))
    (l23 : K.lookup f23 = some ⟨oc23, od23, .func (PySem.W.fnOf "law" "law" (defArgs s_law) (defBody s_law) (defScope s_law) .none kV23 dc23 pm23 an23 cd23 ct23), sl23⟩)
    (c23 : PySem.W.codeIn K cd23 "law" = true)
    (k23 : PySem.W.keepIn K (.ref f23) = true)
    (z_abs : PySem.W.nsIn K mainGlobals "abs" = some none)
    (z_bool : PySem.W.nsIn K mainGlobals "bool" = some none)
    (z_enumerate : PySem.W.nsIn K mainGlobals "enumerate" = some none)
    (z_int : PySem.W.nsIn K mainGlobals "int" = some none)
    (z_isinstance : PySem.W.nsIn K mainGlobals "isinstance" = some none)
    (z_len : PySem.W.nsIn K mainGlobals "len" = some none)
    (z_list : PySem.W.nsIn K mainGlobals "list" = some none)
    (z_range : PySem.W.nsIn K mainGlobals "range" = some none)
    (z_repr : PySem.W.nsIn K mainGlobals "repr" = some none)
    (z_str : PySem.W.nsIn K mainGlobals "str" = some none)
    (z_tuple : PySem.W.nsIn K mainGlobals "tuple" = some none)
    (y_GIVEN : PySem.W.nsIn K mainGlobals "GIVEN" = some (some (.str "given" t1)))
    (y_TURNED : PySem.W.nsIn K mainGlobals "TURNED" = some (some (.str "turned" t2)))
    (y_JOINED : PySem.W.nsIn K mainGlobals "JOINED" = some (some (.str "joined" t3)))
    (y_PART : PySem.W.nsIn K mainGlobals "PART" = some (some (.str "part" t4)))
    (sp : PySem.W.specialIn K (.builtin "object.__class__") "__get__" = some (some (.builtin "getset_descriptor.__get__")))
    (tkk : PySem.W.takesIn K (.builtin "object.__class__") = some true)
    (ca1 : PySem.W.nsIn K mainGlobals "LangError" = some (some (.ref q1)))
    (xga1 : PySem.W.findIn K (.ref q1) "__getattribute__" = some (some (.builtin "BaseException.__getattribute__")))
    (xgg1 : PySem.W.findIn K (.ref q1) "__getattr__" = some none)
    (xsb1 : PySem.W.subIn K (.ref q1) (.type "BaseException") = some true)
    (xhd1 : PySem.W.hasDictIn K q1 = true)
    (xcl1 : PySem.W.findIn K (.ref q1) "__class__" = some (some (.builtin "object.__class__")))
    (xmr1 : PySem.W.mroIn K q1 (.type "object") = some true)
    (xty1 : PySem.W.typeIn K (.ref q1) = some (.type "type"))
    (ca2 : PySem.W.nsIn K mainGlobals "NoSolution" = some (some (.ref q2)))
    (xga2 : PySem.W.findIn K (.ref q2) "__getattribute__" = some (some (.builtin "BaseException.__getattribute__")))
    (xgg2 : PySem.W.findIn K (.ref q2) "__getattr__" = some none)
    (xsb2 : PySem.W.subIn K (.ref q2) (.type "BaseException") = some true)
    (xhd2 : PySem.W.hasDictIn K q2 = true)
    (xcl2 : PySem.W.findIn K (.ref q2) "__class__" = some (some (.builtin "object.__class__")))
    (xmr2 : PySem.W.mroIn K q2 (.type "object") = some true)
    (xty2 : PySem.W.typeIn K (.ref q2) = some (.type "type"))
    (ca3 : PySem.W.nsIn K mainGlobals "BadChain" = some (some (.ref q3)))
    (xga3 : PySem.W.findIn K (.ref q3) "__getattribute__" = some (some (.builtin "BaseException.__getattribute__")))
    (xgg3 : PySem.W.findIn K (.ref q3) "__getattr__" = some none)
    (xsb3 : PySem.W.subIn K (.ref q3) (.type "BaseException") = some true)
    (xhd3 : PySem.W.hasDictIn K q3 = true)
    (xcl3 : PySem.W.findIn K (.ref q3) "__class__" = some (some (.builtin "object.__class__")))
    (xmr3 : PySem.W.mroIn K q3 (.type "object") = some true)
    (xty3 : PySem.W.typeIn K (.ref q3) = some (.type "type"))
    (f3_index : PySem.W.findIn K (.ref q3) "index" = some none)
    (p1_1 : PySem.W.subIn K (.ref q1) (.ref q1) = some true)
    (p1_2 : PySem.W.subIn K (.ref q1) (.ref q2) = some false)
    (ne1_2 : q1 ≠ q2)
    (p1_3 : PySem.W.subIn K (.ref q1) (.ref q3) = some false)
    (ne1_3 : q1 ≠ q3)
    (p2_1 : PySem.W.subIn K (.ref q2) (.ref q1) = some true)
    (p2_2 : PySem.W.subIn K (.ref q2) (.ref q2) = some true)
    (p2_3 : PySem.W.subIn K (.ref q2) (.ref q3) = some false)
    (ne2_3 : q2 ≠ q3)
    (p3_1 : PySem.W.subIn K (.ref q3) (.ref q1) = some true)
    (p3_2 : PySem.W.subIn K (.ref q3) (.ref q2) = some false)
    (ne3_2 : q3 ≠ q2)
    (p3_3 : PySem.W.subIn K (.ref q3) (.ref q3) = some true)
    (ro3 : K.lookup q3 = some (PySem.excClassObj xn3 xq3 q3 xN3 xbs3 xbm3 true xsn3 xsub3 xab3 xcol3 xdd3 x03 x13 x23 x33 x53 "ValueError.__new__"))
    (rv3 : PySem.HandSPX.refsVE xbm3 = true)
    (rs3 : PySem.W.findIn K (.ref q3) "__setattr__" = some (some (.builtin "object.__setattr__")))
    (rk3 : PySem.W.keepIn K (.ref q3) = true)
    (ri3 : PySem.W.findIn K (.ref q3) "__init__" = some (some (.ref xI3)))
    (rt3 : PySem.W.typeIn K (.ref xI3) = some (.type "function"))
    (rl3 : K.lookup xI3 = some ⟨ioc3, iod3, .func (PySem.W.fnOf "__init__" "BadChain.__init__" (defArgs i_BadChain) (defBody i_BadChain) (defScope i_BadChain) .none ikV3 idc3 ipm3 ian3 icd3 ict3), isl3⟩)
    (rc3 : PySem.W.codeIn K icd3 "BadChain.__init__" = true)
    (rp3 : PySem.W.keepIn K (.ref xI3) = true)
    : ∃ (fa : Addr) (fd : FuncData), mg "law" = some (.ref fa) ∧ Binds K fd ["_law_script"] [] ∧ ∀ base : Heap, K.In base → base.Ns mainGlobals mg → FnX P w K mg base 23 fa fd ["_law_script"] (spOf K mg (fsOf (NV.call pg 21) "law")) := by
  have D1 : Df K mg "is_number" s_is_number ["value", "many"] := df_mk X G a1 l1 c1 k1 (fun _ _ _ _ _ _ us hl => match us, hl with | [_, _], _ => rfl)
  have D2 : Df K mg "is_variable" s_is_variable ["shape"] := df_mk X G a2 l2 c2 k2 (fun _ _ _ _ _ _ us hl => match us, hl with | [_], _ => rfl)
  have D3 : Df K mg "are_alike" s_are_alike ["one", "other"] := df_mk X G a3 l3 c3 k3 (fun _ _ _ _ _ _ us hl => match us, hl with | [_, _], _ => rfl)
  have D4 : Df K mg "given_by" s_given_by ["groups", "row"] := df_mk X G a4 l4 c4 k4 (fun _ _ _ _ _ _ us hl => match us, hl with | [_, _], _ => rfl)
  have D5 : Df K mg "shown_by" s_shown_by ["groups", "known", "row"] := df_mk X G a5 l5 c5 k5 (fun _ _ _ _ _ _ us hl => match us, hl with | [_, _, _], _ => rfl)
  have D6 : Df K mg "joined" s_joined ["known", "equation", "number"] := df_mk X G a6 l6 c6 k6 (fun _ _ _ _ _ _ us hl => match us, hl with | [_, _, _], _ => rfl)
  have D7 : Df K mg "chain_shows" s_chain_shows ["groups", "value"] := df_mk X G a7 l7 c7 k7 (fun _ _ _ _ _ _ us hl => match us, hl with | [_, _], _ => rfl)
  have D8 : Df K mg "_law_draws" s_L_draws ["_law_script"] := df_mk X G a8 l8 c8 k8 (fun _ _ _ _ _ _ us hl => match us, hl with | [_], _ => rfl)
  have D9 : Df K mg "_law_next" s_L_next ["_law_drawn", "_law_many"] := df_mk X G a9 l9 c9 k9 (fun _ _ _ _ _ _ us hl => match us, hl with | [_, _], _ => rfl)
  have D10 : Df K mg "_law_one" s_L_one ["_law_drawn", "_law_items"] := df_mk X G a10 l10 c10 k10 (fun _ _ _ _ _ _ us hl => match us, hl with | [_, _], _ => rfl)
  have D11 : Df K mg "_law_shapes" s_L_shapes ["_law_drawn", "_law_many", "_law_deep"] := df_mk X G a11 l11 c11 k11 (fun _ _ _ _ _ _ us hl => match us, hl with | [_, _, _], _ => rfl)
  have D12 : Df K mg "_law_groups" s_L_groups ["_law_drawn", "_law_many", "_law_count"] := df_mk X G a12 l12 c12 k12 (fun _ _ _ _ _ _ us hl => match us, hl with | [_, _, _], _ => rfl)
  have D13 : Df K mg "_law_number" s_L_number ["_law_value", "_law_many"] := df_mk X G a13 l13 c13 k13 (fun _ _ _ _ _ _ us hl => match us, hl with | [_, _], _ => rfl)
  have D14 : Df K mg "_law_tuples" s_L_tuples ["_law_one_here", "_law_other"] := df_mk X G a14 l14 c14 k14 (fun _ _ _ _ _ _ us hl => match us, hl with | [_, _], _ => rfl)
  have D15 : Df K mg "_law_two" s_L_two ["_law_known", "_law_row"] := df_mk X G a15 l15 c15 k15 (fun _ _ _ _ _ _ us hl => match us, hl with | [_, _], _ => rfl)
  have D16 : Df K mg "_law_shown" s_L_shown ["_law_groups_here", "_law_known", "_law_row"] := df_mk X G a16 l16 c16 k16 (fun _ _ _ _ _ _ us hl => match us, hl with | [_, _, _], _ => rfl)
  have D17 : Df K mg "_law_sides" s_L_sides ["_law_drawn", "_law_many"] := df_mk X G a17 l17 c17 k17 (fun _ _ _ _ _ _ us hl => match us, hl with | [_, _], _ => rfl)
  have D18 : Df K mg "_law_due" s_L_due ["_law_groups_here", "_law_value"] := df_mk X G a18 l18 c18 k18 (fun _ _ _ _ _ _ us hl => match us, hl with | [_, _], _ => rfl)
  have D19 : Df K mg "_law_told" s_L_told ["_law_groups_here", "_law_value"] := df_mk X G a19 l19 c19 k19 (fun _ _ _ _ _ _ us hl => match us, hl with | [_, _], _ => rfl)
  have D20 : Df K mg "_law_tried" s_L_tried ["_law_drawn", "_law_groups_here", "_law_many"] := df_mk X G a20 l20 c20 k20 (fun _ _ _ _ _ _ us hl => match us, hl with | [_, _, _], _ => rfl)
  have D21 : Df K mg "_law_chain" s_L_chain ["_law_drawn", "_law_groups_here"] := df_mk X G a21 l21 c21 k21 (fun _ _ _ _ _ _ us hl => match us, hl with | [_, _], _ => rfl)
  have D22 : Df K mg "_law_spoilt" s_L_spoilt ["_law_drawn", "_law_groups_here", "_law_chain_here"] := df_mk X G a22 l22 c22 k22 (fun _ _ _ _ _ _ us hl => match us, hl with | [_, _, _], _ => rfl)
  have D23 : Df K mg "law" s_law ["_law_script"] := df_mk X G a23 l23 c23 k23 (fun _ _ _ _ _ _ us hl => match us, hl with | [_], _ => rfl)
  have m1 := PySem.W.mg_of X G ca1
  have m2 := PySem.W.mg_of X G ca2
  have m3 := PySem.W.mg_of X G ca3
  have hc : ClsAll K mg pg.cls := by
    intro c cl h
    have h := PySem.mem_of_lookup h
    simp only [pg, clss, List.mem_cons, Prod.mk.injEq, List.not_mem_nil, or_false] at h
    rcases h with ⟨rfl, rfl⟩ | ⟨rfl, rfl⟩ | ⟨rfl, rfl⟩
    · refine ⟨q1, m1, ⟨xga1, xgg1, xsb1, xhd1⟩, ⟨xga1, xgg1, xsb1, xhd1, xcl1, sp, tkk, xmr1⟩, fun f hf => ?_, fun c2 cl2 k2 h2 hm => ?_⟩
      · exact nomatch hf
      · have h2 := PySem.mem_of_lookup h2
        simp only [pg, clss, List.mem_cons, Prod.mk.injEq, List.not_mem_nil, or_false] at h2
        rcases h2 with ⟨rfl, rfl⟩ | ⟨rfl, rfl⟩ | ⟨rfl, rfl⟩
        · rw [m1] at hm; cases hm; exact ⟨kit_ref xhd1 xty1 p1_1 (fun _ => rfl), PySem.W.exm_ref xsb1 xhd1 xty1 p1_1⟩
        · rw [m2] at hm; cases hm; exact ⟨kit_ref xhd2 xty2 p1_2 (fun z => absurd z ne1_2), PySem.W.exm_ref xsb2 xhd2 xty2 p1_2⟩
        · rw [m3] at hm; cases hm; exact ⟨kit_ref xhd3 xty3 p1_3 (fun z => absurd z ne1_3), PySem.W.exm_ref xsb3 xhd3 xty3 p1_3⟩
    · refine ⟨q2, m2, ⟨xga2, xgg2, xsb2, xhd2⟩, ⟨xga2, xgg2, xsb2, xhd2, xcl2, sp, tkk, xmr2⟩, fun f hf => ?_, fun c2 cl2 k2 h2 hm => ?_⟩
      · exact nomatch hf
      · have h2 := PySem.mem_of_lookup h2
        simp only [pg, clss, List.mem_cons, Prod.mk.injEq, List.not_mem_nil, or_false] at h2
        rcases h2 with ⟨rfl, rfl⟩ | ⟨rfl, rfl⟩ | ⟨rfl, rfl⟩
        · rw [m1] at hm; cases hm; exact ⟨kit_ref xhd1 xty1 p2_1 (fun _ => rfl), PySem.W.exm_ref xsb1 xhd1 xty1 p2_1⟩
        · rw [m2] at hm; cases hm; exact ⟨kit_ref xhd2 xty2 p2_2 (fun _ => rfl), PySem.W.exm_ref xsb2 xhd2 xty2 p2_2⟩
        · rw [m3] at hm; cases hm; exact ⟨kit_ref xhd3 xty3 p2_3 (fun z => absurd z ne2_3), PySem.W.exm_ref xsb3 xhd3 xty3 p2_3⟩
    · refine ⟨q3, m3, ⟨xga3, xgg3, xsb3, xhd3⟩, ⟨xga3, xgg3, xsb3, xhd3, xcl3, sp, tkk, xmr3⟩, fun f hf => ?_, fun c2 cl2 k2 h2 hm => ?_⟩
      · simp only [List.mem_cons, List.not_mem_nil, or_false] at hf
        subst hf; exact f3_index
      · have h2 := PySem.mem_of_lookup h2
        simp only [pg, clss, List.mem_cons, Prod.mk.injEq, List.not_mem_nil, or_false] at h2
        rcases h2 with ⟨rfl, rfl⟩ | ⟨rfl, rfl⟩ | ⟨rfl, rfl⟩
        · rw [m1] at hm; cases hm; exact ⟨kit_ref xhd1 xty1 p3_1 (fun _ => rfl), PySem.W.exm_ref xsb1 xhd1 xty1 p3_1⟩
        · rw [m2] at hm; cases hm; exact ⟨kit_ref xhd2 xty2 p3_2 (fun z => absurd z ne3_2), PySem.W.exm_ref xsb2 xhd2 xty2 p3_2⟩
        · rw [m3] at hm; cases hm; exact ⟨kit_ref xhd3 xty3 p3_3 (fun _ => rfl), PySem.W.exm_ref xsb3 xhd3 xty3 p3_3⟩
  have hT : TopOk tp pg K mg := by
    refine ⟨fun x d h => ?_, fun x h => ?_, hc, fun c cl f h hf => ?_⟩
    · have h := PySem.mem_of_lookup h
      simp only [tp, List.mem_cons, Prod.mk.injEq, List.not_mem_nil, or_false] at h
      rcases h with ⟨rfl, rfl⟩ | ⟨rfl, rfl⟩ | ⟨rfl, rfl⟩ | ⟨rfl, rfl⟩
      · exact .inr ⟨_, _, rfl, PySem.W.mg_of X G y_GIVEN⟩
      · exact .inr ⟨_, _, rfl, PySem.W.mg_of X G y_TURNED⟩
      · exact .inr ⟨_, _, rfl, PySem.W.mg_of X G y_JOINED⟩
      · exact .inr ⟨_, _, rfl, PySem.W.mg_of X G y_PART⟩
    · have h := List.contains_iff_mem.mp h
      simp only [tp, List.mem_cons, List.not_mem_nil, or_false] at h
      rcases h with rfl | rfl | rfl | rfl | rfl | rfl | rfl | rfl | rfl | rfl | rfl
      · exact PySem.W.mg_none_of X G z_abs
      · exact PySem.W.mg_none_of X G z_bool
      · exact PySem.W.mg_none_of X G z_enumerate
      · exact PySem.W.mg_none_of X G z_int
      · exact PySem.W.mg_none_of X G z_isinstance
      · exact PySem.W.mg_none_of X G z_len
      · exact PySem.W.mg_none_of X G z_list
      · exact PySem.W.mg_none_of X G z_range
      · exact PySem.W.mg_none_of X G z_repr
      · exact PySem.W.mg_none_of X G z_str
      · exact PySem.W.mg_none_of X G z_tuple
    · have h := PySem.mem_of_lookup h
      simp only [pg, clss, List.mem_cons, Prod.mk.injEq, List.not_mem_nil, or_false] at h
      rcases h with ⟨rfl, rfl⟩ | ⟨rfl, rfl⟩ | ⟨rfl, rfl⟩
      · exact nomatch hf
      · exact nomatch hf
      · cases hf
        have F := fun_mk (st := i_BadChain) rl3 rc3 rp3
        exact ⟨q3, xI3, _, ["self", "index"], ⟨⟨_, _, _, _, _, _, _, _, _, _, _, _, _, _, _, ro3, rv3⟩, rs3, xsb3, xty3, rk3⟩, ri3, rt3, fun P w base => ini_ok F is_BadChain rfl (by decide) (by decide) (by decide) (by decide), F.binds (fun _ _ _ _ _ _ us hl => match us, hl with | [_, _], _ => rfl), m3, f3_index⟩
  exact law_of (n := 20) hT (def_ok D1 D2 D3 D4 D5 D6 D7 D8 D9 D10 D11 D12 D13 D14 D15 D16 D17 D18 D19 D20 D21 D22 D23) fns_ok lk_law D23 sc_law rfl rfl ck_law
end
end K18
open PySem PySem.W PyProof.Rows
set_option maxRecDepth 100000 in
set_option maxHeartbeats 0 in
theorem PySem.Challenge.cw_shapelang_k18_chains_holds : PySem.Challenge.rw_shapelang_k18_chains.Holds := by
  w_on; o_law; k_head; (case hw => w_witness2)
  k_fill
  refine SN.walk_lawX (l := PySem.Challenge.rw_shapelang_k18_chains) (k := 23) (x := "_law_script") (fs := SN.fsOf (NV.call K18.pg 21) "law") rfl rfl ⟨rfl, by decide, by decide⟩ K18.law_true (fun w h Y => PySem.W.kIn_of Y) ?F
  case F =>
    intro w mg h KX G
    refine' K18.fin KX G ?a1 ?l1 ?c1 ?k1 ?a2 ?l2 ?c2 ?k2 ?a3 ?l3 ?c3 ?k3 ?a4 ?l4 ?c4 ?k4 ?a5 ?l5 ?c5 ?k5 ?a6 ?l6 ?c6 ?k6 ?a7 ?l7 ?c7 ?k7 ?a8 ?l8 ?c8 ?k8 ?a9 ?l9 ?c9 ?k9 ?a10 ?l10 ?c10 ?k10 ?a11 ?l11 ?c11 ?k11 ?a12 ?l12 ?c12 ?k12 ?a13 ?l13 ?c13 ?k13 ?a14 ?l14 ?c14 ?k14 ?a15 ?l15 ?c15 ?k15 ?a16 ?l16 ?c16 ?k16 ?a17 ?l17 ?c17 ?k17 ?a18 ?l18 ?c18 ?k18 ?a19 ?l19 ?c19 ?k19 ?a20 ?l20 ?c20 ?k20 ?a21 ?l21 ?c21 ?k21 ?a22 ?l22 ?c22 ?k22 ?a23 ?l23 ?c23 ?k23 ?z_abs ?z_bool ?z_enumerate ?z_int ?z_isinstance ?z_len ?z_list ?z_range ?z_repr ?z_str ?z_tuple ?y_GIVEN ?y_TURNED ?y_JOINED ?y_PART ?sp ?tkk ?ca1 ?xga1 ?xgg1 ?xsb1 ?xhd1 ?xcl1 ?xmr1 ?xty1 ?ca2 ?xga2 ?xgg2 ?xsb2 ?xhd2 ?xcl2 ?xmr2 ?xty2 ?ca3 ?xga3 ?xgg3 ?xsb3 ?xhd3 ?xcl3 ?xmr3 ?xty3 ?f3_index ?p1_1 ?p1_2 ?ne1_2 ?p1_3 ?ne1_3 ?p2_1 ?p2_2 ?p2_3 ?ne2_3 ?p3_1 ?p3_2 ?ne3_2 ?p3_3 ?ro3 ?rv3 ?rs3 ?rk3 ?ri3 ?rt3 ?rl3 ?rc3 ?rp3
    case a1 => k_is
    case l1 => k_is
    case c1 => k_is
    case k1 => k_is
    case a2 => k_is
    case l2 => k_is
    case c2 => k_is
    case k2 => k_is
    case a3 => k_is
    case l3 => k_is
    case c3 => k_is
    case k3 => k_is
    case a4 => k_is
    case l4 => k_is
    case c4 => k_is
    case k4 => k_is
    case a5 => k_is
    case l5 => k_is
    case c5 => k_is
    case k5 => k_is
    case a6 => k_is
    case l6 => k_is
    case c6 => k_is
    case k6 => k_is
    case a7 => k_is
    case l7 => k_is
    case c7 => k_is
    case k7 => k_is
    case a8 => k_is
    case l8 => k_is
    case c8 => k_is
    case k8 => k_is
    case a9 => k_is
    case l9 => k_is
    case c9 => k_is
    case k9 => k_is
    case a10 => k_is
    case l10 => k_is
    case c10 => k_is
    case k10 => k_is
    case a11 => k_is
    case l11 => k_is
    case c11 => k_is
    case k11 => k_is
    case a12 => k_is
    case l12 => k_is
    case c12 => k_is
    case k12 => k_is
    case a13 => k_is
    case l13 => k_is
    case c13 => k_is
    case k13 => k_is
    case a14 => k_is
    case l14 => k_is
    case c14 => k_is
    case k14 => k_is
    case a15 => k_is
    case l15 => k_is
    case c15 => k_is
    case k15 => k_is
    case a16 => k_is
    case l16 => k_is
    case c16 => k_is
    case k16 => k_is
    case a17 => k_is
    case l17 => k_is
    case c17 => k_is
    case k17 => k_is
    case a18 => k_is
    case l18 => k_is
    case c18 => k_is
    case k18 => k_is
    case a19 => k_is
    case l19 => k_is
    case c19 => k_is
    case k19 => k_is
    case a20 => k_is
    case l20 => k_is
    case c20 => k_is
    case k20 => k_is
    case a21 => k_is
    case l21 => k_is
    case c21 => k_is
    case k21 => k_is
    case a22 => k_is
    case l22 => k_is
    case c22 => k_is
    case k22 => k_is
    case a23 => k_is
    case l23 => k_is
    case c23 => k_is
    case k23 => k_is
    case z_abs => k_is
    case z_bool => k_is
    case z_enumerate => k_is
    case z_int => k_is
    case z_isinstance => k_is
    case z_len => k_is
    case z_list => k_is
    case z_range => k_is
    case z_repr => k_is
    case z_str => k_is
    case z_tuple => k_is
    case y_GIVEN => k_is
    case y_TURNED => k_is
    case y_JOINED => k_is
    case y_PART => k_is
    case sp => k_is
    case tkk => k_is
    case ca1 => k_is
    case xga1 => k_is
    case xgg1 => k_is
    case xsb1 => k_is
    case xhd1 => k_is
    case xcl1 => k_is
    case xmr1 => k_is
    case xty1 => k_is
    case ca2 => k_is
    case xga2 => k_is
    case xgg2 => k_is
    case xsb2 => k_is
    case xhd2 => k_is
    case xcl2 => k_is
    case xmr2 => k_is
    case xty2 => k_is
    case ca3 => k_is
    case xga3 => k_is
    case xgg3 => k_is
    case xsb3 => k_is
    case xhd3 => k_is
    case xcl3 => k_is
    case xmr3 => k_is
    case xty3 => k_is
    case f3_index => k_is
    case p1_1 => k_is
    case p1_2 => k_is
    case ne1_2 => decide
    case p1_3 => k_is
    case ne1_3 => decide
    case p2_1 => k_is
    case p2_2 => k_is
    case p2_3 => k_is
    case ne2_3 => decide
    case p3_1 => k_is
    case p3_2 => k_is
    case ne3_2 => decide
    case p3_3 => k_is
    case ro3 => k_is
    case rv3 => rfl
    case rs3 => k_is
    case rk3 => k_is
    case ri3 => k_is
    case rt3 => k_is
    case rl3 => k_is
    case rc3 => k_is
    case rp3 => k_is
