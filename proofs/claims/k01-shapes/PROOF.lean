import PyProof.Rows.All
import Wide.All
import OpenK.AllK
import Wide.FinOn
import HandS.ForMost
import HandS.IsInst
import HandS.Flow
import HandS.Deep
import HandS.TupAny
import HandS.DictComp
import HandS.Conv
import HandS.Style
import PySem.Challenge.RW_shapelang_k01_shapes
set_option Elab.async false
set_option linter.all false
set_option maxRecDepth 100000
set_option maxHeartbeats 4000000
/-! DW: a layer over HandS in which a def is read over plain data, the heap put away. -/
namespace DW
open PySem L2

/-! ### the wish of a piece of syntax, whatever its derivation -/
def WE (X : Cx) (e : Expr) : TE := fun σ H Q => ∀ pins s, Inv X pins σ H s → wpAny (model X.prog X.w) X.A (eval e X.env) (EP X pins σ Q) X.xe s
def WT (X : Cx) (e : Expr) : TT := fun σ H Q => ∀ pins s, Inv X pins σ H s → wpAny (model X.prog X.w) X.A (isTrue e X.env (eval e X.env)) (TP X pins σ Q) X.xe s
def WA (X : Cx) (es : List Expr) : TA := fun σ H Q => ∀ pos pins s, Inv X pins σ H s → wpAny (model X.prog X.w) X.A (spliced (backTo pos (starEach es X.env))) (AP X pins σ Q) X.xe s
def WS (X : Cx) (st : Stmt) : TS := fun D σ H => ∀ pins s, Inv X pins σ H s → wpAny (model X.prog X.w) X.A (exec st X.env) (SP X pins D) X.xe s
def WB (X : Cx) (st : List Stmt) : TS := fun D σ H => ∀ pins s, Inv X pins σ H s → wpAny (model X.prog X.w) X.A (execs st X.env) (SP X pins D) X.xe s
section
variable {X : Cx} {e : Expr} {es : List Expr} {st : Stmt} {sts : List Stmt} {σ : St} {H : Hp}
theorem WE.pe : PE X e (WE X e) := ⟨fun pins s _ _ _ I h => h pins s I⟩
theorem WT.pt : PT X e (WT X e) := ⟨fun pins s _ _ _ I h => h pins s I⟩
theorem WA.pa : PA X es (WA X es) := ⟨fun pos pins s _ _ _ I h => h pos pins s I⟩
theorem WS.ps : PS X st (WS X st) := ⟨fun pins s _ _ _ I h => h pins s I⟩
theorem WB.pss : PSs X sts (WB X sts) := ⟨fun pins s _ _ _ I h => h pins s I⟩
theorem WE.of {t : TE} {Q : VK} (h : PE X e t) (q : t σ H Q) : WE X e σ H Q := fun pins s I => h.run pins s σ H Q I q
theorem WT.of {t : TT} {Q : Bool → Hp → Prop} (h : PT X e t) (q : t σ H Q) : WT X e σ H Q := fun pins s I => h.run pins s σ H Q I q
theorem WA.of {t : TA} {Q : List V → Hp → Prop} (h : PA X es t) (q : t σ H Q) : WA X es σ H Q := fun pos pins s I => h.run pos pins s σ H Q I q
theorem WS.of {t : TS} {D : Ends} (h : PS X st t) (q : t D σ H) : WS X st D σ H := fun pins s I => h.run pins s σ H D I q
theorem WB.of {t : TS} {D : Ends} (h : PSs X sts t) (q : t D σ H) : WB X sts D σ H := fun pins s I => h.run pins s σ H D I q
theorem WE.thn {Q Q' : VK} (h : WE X e σ H Q) (k : ∀ pins s v u H', Inv X pins σ H' s → RelV v u → Q v H' → ∃ v' H'', Inv X pins σ H'' s ∧ RelV v' u ∧ Q' v' H'') : WE X e σ H Q' := fun pins s I =>
  L2.thn (h pins s I) fun u s' ⟨v, H', I', r, q⟩ => k pins s' v u H' I' r q
theorem WE.mono {Q Q' : VK} (h : WE X e σ H Q) (k : ∀ v H', Q v H' → Q' v H') : WE X e σ H Q' := h.thn fun _ _ v _ H' I r q => ⟨v, H', I, r, k v H' q⟩
end

/-! ### what never changes: tuples, and what is frozen -/
structure KT (H H' : Hp) : Prop where
  t : ∀ b xs, H b = some (.tup xs) → H' b = some (.tup xs)
  f : ∀ b o u, H b = some (.frz o u) → H' b = some (.frz o u)
theorem KT.refl (H : Hp) : KT H H := ⟨fun _ _ h => h, fun _ _ _ h => h⟩
theorem KT.trans {H H1 H2 : Hp} (a : KT H H1) (b : KT H1 H2) : KT H H2 := ⟨fun x y h => b.t x y (a.t x y h), fun x y z h => b.f x y z (a.f x y z h)⟩
/-- all that is tracked stays -/
def Ex (H H' : Hp) : Prop := ∀ a o, H a = some o → H' a = some o
theorem Ex.refl (H : Hp) : Ex H H := fun _ _ h => h
theorem Ex.trans {H H1 H2 : Hp} (a : Ex H H1) (b : Ex H1 H2) : Ex H H2 := fun x o h => b x o (a x o h)
theorem Ex.new {H : Hp} {p : Addr} {o : HO} (h : H p = none) : Ex H (upd H p o) := fun a u e => by
  rw [upd_ne (ne_of_none e h)]
  exact e
theorem Ex.kt {H H' : Hp} (e : Ex H H') : KT H H' := ⟨fun b xs h => e b _ h, fun b o u h => e b _ h⟩
theorem Ex.fresh {H H' : Hp} (e : Ex H H') {p : Addr} (h : H' p = none) : H p = none := by
  cases h1 : H p with
  | none => rfl
  | some o =>
    rw [e p o h1] at h
    cases h
theorem KT.lst {H : Hp} {l : Addr} {xs ys : List V} (h : H l = some (.lst xs)) : KT H (upd H l (.lst ys)) := ⟨fun b zs e => by
  rw [upd_ne (ne_of e h (by intro z; cases z))]
  exact e, fun b o u e => by
  rw [upd_ne (ne_of e h (by intro z; cases z))]
  exact e⟩

theorem rd_kt_t {H H' : Hp} {a : Addr} {xs : List V} (k : KT H H') (h : Rd H a (.tup xs)) : Rd H' a (.tup xs) := by
  rcases h with h | ⟨o, h⟩
  · exact .inl (k.t a xs h)
  · exact .inr ⟨o, k.f a o _ h⟩
theorem sqt_kt {K : PySem.W.Frag} {H H' : Hp} {a : Addr} {xs : List V} (k : KT H H') (h : SqT K H a xs) : SqT K H' a xs := by
  rcases h with h | h
  · exact .inl (rd_kt_t k h)
  · exact .inr h
/-- a list that stays: frozen -/
def SqF (K : PySem.W.Frag) (H : Hp) (a : Addr) (xs : List V) : Prop := ∃ o, H a = some (.frz o (.lst xs))
theorem SqF.l {K : PySem.W.Frag} {H : Hp} {a : Addr} {xs : List V} (h : SqF K H a xs) : SqL K H a xs := .inl (.inr h)
theorem SqF.kt {K : PySem.W.Frag} {H H' : Hp} {a : Addr} {xs : List V} (k : KT H H') (h : SqF K H a xs) : SqF K H' a xs := by
  obtain ⟨o, h⟩ := h
  exact ⟨o, k.f a o _ h⟩

/-- the script: a list that stays, frozen or of the module -/
def SqS (K : PySem.W.Frag) (H : Hp) (a : Addr) (xs : List V) : Prop :=
  SqF K H a xs ∨ ∃ (o : Obj) (its : Array Value) (n : Nat), K.lookup a = some o ∧ o.cls = .type "list" ∧ o.dict = none ∧ o.data = .seq its n ∧ its.size ≤ sizeLine ∧ Vals xs its.toList
theorem SqS.l {K : PySem.W.Frag} {H : Hp} {a : Addr} {xs : List V} (h : SqS K H a xs) : SqL K H a xs := by
  rcases h with h | h
  · exact h.l
  · exact .inr h
theorem SqS.kt {K : PySem.W.Frag} {H H' : Hp} {a : Addr} {xs : List V} (k : KT H H') (h : SqS K H a xs) : SqS K H' a xs := by
  rcases h with h | h
  · exact .inl (h.kt k)
  · exact .inr h

/-! ### data that stays, at a value -/
mutual
inductive Rp (K : PySem.W.Frag) (H : Hp) : V → PyData → Prop
  | non : Rp K H .non .none
  | bl (b : Bool) : Rp K H (.bl b) (.bool b)
  | int (i : Int) : Rp K H (.int i) (.int i)
  | str (x : Str) : Rp K H (.str x) (.str x)
  | tup {a : Addr} {xs : List V} {ds : List PyData} : SqT K H a xs → RpL K H xs ds → Rp K H (.ref a) (.tuple ds)
  | lst {a : Addr} {xs : List V} {ds : List PyData} : SqF K H a xs → RpL K H xs ds → Rp K H (.ref a) (.list ds)
  | dic {a : Addr} {o : Obj} : H a = some (.frz o (.dK [])) → Rp K H (.ref a) (.dict [])
inductive RpL (K : PySem.W.Frag) (H : Hp) : List V → List PyData → Prop
  | nil : RpL K H [] []
  | cons {v : V} {vs : List V} {d : PyData} {ds : List PyData} : Rp K H v d → RpL K H vs ds → RpL K H (v :: vs) (d :: ds)
end
section
variable {K : PySem.W.Frag} {H H' : Hp}
mutual
theorem Rp.kt (k : KT H H') : ∀ {v : V} {d : PyData}, Rp K H v d → Rp K H' v d
  | _, _, .non => .non
  | _, _, .bl b => .bl b
  | _, _, .int i => .int i
  | _, _, .str x => .str x
  | _, _, .tup h q => .tup (sqt_kt k h) (RpL.kt k q)
  | _, _, .lst h q => .lst (h.kt k) (RpL.kt k q)
  | _, _, .dic h => .dic (k.f _ _ _ h)
theorem RpL.kt (k : KT H H') : ∀ {vs : List V} {ds : List PyData}, RpL K H vs ds → RpL K H' vs ds
  | _, _, .nil => .nil
  | _, _, .cons h q => .cons (Rp.kt k h) (RpL.kt k q)
end
theorem RpL.length : ∀ {vs : List V} {ds : List PyData}, RpL K H vs ds → vs.length = ds.length
  | _, _, .nil => rfl
  | _, _, .cons _ q => by rw [List.length_cons, List.length_cons, RpL.length q]
theorem RpL.get : ∀ {vs : List V} {ds : List PyData} {i : Nat} {v : V}, RpL K H vs ds → vs[i]? = some v → ∃ d, ds[i]? = some d ∧ Rp K H v d
  | _, _, i, _, .nil, e => by simp at e
  | _, _, 0, _, .cons (d := d) h _, e => by
    simp at e
    subst e
    exact ⟨d, rfl, h⟩
  | _, _, i + 1, v, .cons _ q, e => by
    obtain ⟨d, h1, h2⟩ := RpL.get (i := i) (v := v) q (by simpa using e)
    exact ⟨d, by simpa using h1, h2⟩
theorem RpL.getD : ∀ {vs : List V} {ds : List PyData} {i : Nat} {d : PyData}, RpL K H vs ds → ds[i]? = some d → ∃ v, vs[i]? = some v ∧ Rp K H v d
  | _, _, i, _, .nil, e => by simp at e
  | _, _, 0, _, .cons (v := v) h _, e => by
    simp at e
    subst e
    exact ⟨v, rfl, h⟩
  | _, _, i + 1, d, .cons _ q, e => by
    obtain ⟨v, h1, h2⟩ := RpL.getD (i := i) (d := d) q (by simpa using e)
    exact ⟨v, by simpa using h1, h2⟩
theorem RpL.append : ∀ {vs ws : List V} {ds es : List PyData}, RpL K H vs ds → RpL K H ws es → RpL K H (vs ++ ws) (ds ++ es)
  | _, _, _, _, .nil, s => s
  | _, _, _, _, .cons h q, s => .cons h (RpL.append q s)
theorem RpL.take : ∀ {vs : List V} {ds : List PyData} (n : Nat), RpL K H vs ds → RpL K H (vs.take n) (ds.take n)
  | _, _, 0, _ => by rw [List.take_zero, List.take_zero]; exact .nil
  | _, _, _ + 1, .nil => by rw [List.take_nil, List.take_nil]; exact .nil
  | _, _, n + 1, .cons h q => by rw [List.take_succ_cons, List.take_succ_cons]; exact .cons h (RpL.take n q)
theorem RpL.drop : ∀ {vs : List V} {ds : List PyData} (n : Nat), RpL K H vs ds → RpL K H (vs.drop n) (ds.drop n)
  | _, _, 0, h => by rw [List.drop_zero, List.drop_zero]; exact h
  | _, _, _ + 1, .nil => by rw [List.drop_nil, List.drop_nil]; exact .nil
  | _, _, n + 1, .cons h q => by rw [List.drop_succ_cons, List.drop_succ_cons]; exact RpL.drop n q
theorem RpL.set {v : V} {d : PyData} (r : Rp K H v d) : ∀ {vs : List V} {ds : List PyData} (i : Nat), RpL K H vs ds → RpL K H (vs.set i v) (ds.set i d)
  | _, _, _, .nil => .nil
  | _, _, 0, .cons _ t => .cons r t
  | _, _, i + 1, .cons q t => .cons q (RpL.set r i t)
theorem RpL.reverse : ∀ {vs : List V} {ds : List PyData}, RpL K H vs ds → RpL K H vs.reverse ds.reverse
  | _, _, .nil => .nil
  | _, _, .cons h q => by rw [List.reverse_cons, List.reverse_cons]; exact (RpL.reverse q).append (.cons h .nil)
theorem RpL.snoc {vs : List V} {ds : List PyData} {v : V} {d : PyData} (h : RpL K H vs ds) (r : Rp K H v d) : RpL K H (vs ++ [v]) (ds ++ [d]) := h.append (.cons r .nil)
theorem RpL.dropLast {vs : List V} {ds : List PyData} (h : RpL K H vs ds) : RpL K H vs.dropLast ds.dropLast := by
  rw [List.dropLast_eq_take, List.dropLast_eq_take, h.length]
  exact h.take _
theorem RpL.ints : ∀ {vs : List V} {ns : List Int}, RpL K H vs (ns.map .int) → vs = ns.map V.int
  | _, [], h => by cases h; rfl
  | _, n :: ns, h => by
    cases h with
    | cons h q =>
      cases h
      rw [RpL.ints q]
      rfl
theorem RpL.ofInts : ∀ (ns : List Int), RpL K H (ns.map V.int) (ns.map .int)
  | [] => .nil
  | n :: ns => .cons (.int n) (RpL.ofInts ns)
end

/-! ### freezing: a tracked list is known to be never changed again -/
section
variable {X : Cx} {pins : List (Addr × Obj)} {σ : St} {H : Hp} {s : Shared}
theorem freeze_un {fs ex : List Addr} {H0 H : Hp} {h0 h : Heap} {p : Addr} {o : Obj} {u v : HO} (un : Un fs ex H0 H h0 h) (hp : H p = some u) (nt : ∀ xs, u ≠ .tup xs) (nf : ∀ o w, u ≠ .frz o w) (nb : ∀ ps, u ≠ .tbl ps) : Un fs ex H0 (upd H p v) h0 h where
  keep := un.keep
  slot := un.slot
  free := fun b ob q n hx => by
    have h1 := un.free b ob q n hx
    rw [upd_ne (fun e => by rw [e, hp] at h1; cases h1)]
    exact h1
  there := un.there
  tups := fun b xs q => by
    have h1 := un.tups b xs q
    rw [upd_ne (fun e => by rw [e, hp] at h1; exact nt xs (Option.some.inj h1))]
    exact h1
  frzs := fun b ob w q => by
    have h1 := un.frzs b ob w q
    rw [upd_ne (fun e => by rw [e, hp] at h1; exact nf ob w (Option.some.inj h1))]
    exact h1
  tbls := fun b ps q => by
    obtain ⟨m, h1⟩ := un.tbls b ps q
    exact ⟨m, by
      rw [upd_ne (fun e => by rw [e, hp] at h1; exact nb _ (Option.some.inj h1))]
      exact h1⟩
theorem freeze_hok {P : Program} {w : World} {h : Heap} {p : Addr} {u v : HO} (ok : HOk P w H h) (hp : H p = some u) (nt : ∀ xs, u ≠ .tup xs) (no : ∀ a, u ≠ .own a) (hv : ObjOk P w H h p v) : HOk P w (upd H p v) h := fun b o q => by
  have ho : ∀ a b, H b = some (.own a) → upd H p v b = some (.own a) := fun a b e => by
    rw [upd_ne (fun z => by rw [z, hp] at e; exact no a (Option.some.inj e))]
    exact e
  have ht : ∀ b xs, H b = some (.tup xs) → upd H p v b = some (.tup xs) := fun b xs e => by
    rw [upd_ne (fun z => by rw [z, hp] at e; exact nt xs (Option.some.inj e))]
    exact e
  by_cases hb : b = p
  · subst hb
    rw [upd_same] at q
    cases q
    exact hv.stay (fun _ _ _ z => z) (ho b) ht
  · rw [upd_ne hb] at q
    exact (ok b o q).stay (fun _ _ _ z => z) (ho b) ht
theorem Inv.heap_by {H' : Hp} (I : Inv X pins σ H s) (un : Un X.fs X.ex X.H_0 H' X.s_0.heap s.heap) (hok : HOk X.prog X.w H' s.heap) (nn : ∀ b, H b = none → H' b = none) : Inv X pins σ H' s :=
  ⟨I.ok, I.os, I.bare, un, I.loc, I.cell, nn _ I.free, fun x c e => nn _ (I.freeC x c e), fun p hp => by
    obtain ⟨a, b, c⟩ := I.pin p hp
    exact ⟨a, nn _ b, c⟩, hok, I.len⟩
theorem obj_at {P : Program} {w : World} {h : Heap} {a : Addr} {o : HO} (x : ObjOk P w H h a o) : ∃ ob, h.get? a = some ob := by
  cases o with
  | lst xs => obtain ⟨_, _, _, _, e⟩ := x; exact ⟨_, e⟩
  | tup xs => obtain ⟨_, _, _, o, e, _⟩ := x; exact ⟨_, e⟩
  | dK kvs => obtain ⟨_, _, _, _, o, _, _, e, _⟩ := x; exact ⟨_, e⟩
  | dT kvs => obtain ⟨_, _, _, _, o, _, _, e, _⟩ := x; exact ⟨_, e⟩
  | set S n => obtain ⟨o, _, _, _, e, _⟩ := x; exact ⟨_, e⟩
  | ins C dx fs => obtain ⟨_, _, _, e, _⟩ := x; exact ⟨_, e⟩
  | own y => exact x
  | xd fs => obtain ⟨_, ⟨_, _, _, e, _⟩, _⟩ := x; exact ⟨_, e⟩
  | rng lo hi => obtain ⟨_, _, _, e⟩ := x; exact ⟨_, e⟩
  | frz ob u => obtain ⟨e, _⟩ := x; exact ⟨_, e⟩
  | tbl ps => exact ⟨_, (show h.get? a = some _ from x)⟩
  | met f y => exact ⟨_, (show h.get? a = some _ from x)⟩
  | ext φ => obtain ⟨_, ⟨_, e⟩, _⟩ := x; exact ⟨_, e⟩
theorem freeze {p : Addr} {u : HO} (I : Inv X pins σ H s) (hp : H p = some u) (nt : ∀ xs, u ≠ .tup xs) (nf : ∀ o w, u ≠ .frz o w) (nb : ∀ ps, u ≠ .tbl ps) (no : ∀ a, u ≠ .own a) : ∃ o, Inv X pins σ (upd H p (.frz o u)) s := by
  have ok := I.hok p u hp
  obtain ⟨o, ho⟩ := obj_at ok
  refine ⟨o, Inv.heap_by I (freeze_un (o := o) I.base hp nt nf nb) (freeze_hok I.hok hp nt no ⟨ho, ok⟩) fun b hb => ?_⟩
  rw [upd_ne (fun e => by rw [e, hp] at hb; cases hb)]
  exact hb
end
end DW
namespace DW
open PySem L2

/-! ### slots -/
/-- what a slot holds: nothing known; data that stays; a list of its own (nobody else refers to it); the drawn list -/
inductive SV where
  | no | dat (d : PyData) | own (ds : List PyData) | dic (kvs : List (Key × PyData)) | drw | scr (ns : List Int)
/-- what an expression gives: data, or the very thing in slot i -/
inductive EV where
  | dat (d : PyData) | ali (i : Nat)
/-- what a def gives back -/
inductive RV where
  | dat (d : PyData) | lst (ds : List PyData)
abbrev Rho := List SV
def SV.isOwn : SV → Bool
  | .own _ => true
  | .dic _ => true
  | _ => false

inductive RpK (K : PySem.W.Frag) (H : Hp) : List (Key × V) → List (Key × PyData) → Prop
  | nil : RpK K H [] []
  | cons {k : Key} {v : V} {d : PyData} {vs : List (Key × V)} {ds : List (Key × PyData)} : Rp K H v d → RpK K H vs ds → RpK K H ((k, v) :: vs) ((k, d) :: ds)
theorem RpK.kt {K : PySem.W.Frag} {H H' : Hp} (k : KT H H') : ∀ {vs : List (Key × V)} {ds : List (Key × PyData)}, RpK K H vs ds → RpK K H' vs ds
  | _, _, .nil => .nil
  | _, _, .cons h q => .cons (h.kt k) (RpK.kt k q)

/-- the drawn list: three ints, the first one not below 0, the second one small -/
def Drawn (H : Hp) (a : Addr) : Prop := ∃ g m c : Int, H a = some (.lst [.int g, .int m, .int c]) ∧ 0 ≤ g ∧ 0 ≤ m ∧ m < 2 ^ 61 ∧ 0 ≤ c

/-- the heap over the one at the def's entry: the caller's things stay, but for the drawn list -/
structure Fr (H0 : Hp) (dr : Option Addr) (H : Hp) : Prop where
  ext : ∀ b o, H0 b = some o → dr ≠ some b → H b = some o
  kt : KT H0 H
  drw : ∀ a, dr = some a → Drawn H a

def OwnAt (K : PySem.W.Frag) (H0 : Hp) (dr : Option Addr) (H : Hp) (l : Addr) : SV → Prop
  | .own ds => H0 l = none ∧ dr ≠ some l ∧ ∃ vs, H l = some (.lst vs) ∧ RpL K H vs ds
  | .dic kvs => H0 l = none ∧ dr ≠ some l ∧ ∃ vs, H l = some (.dK vs) ∧ RpK K H vs kvs
  | _ => False
def SlotOk (K : PySem.W.Frag) (H0 : Hp) (dr : Option Addr) (H : Hp) (v : Option V) : SV → Prop
  | .no => True
  | .dat d => ∃ x, v = some x ∧ Rp K H x d
  | .own ds => ∃ l, v = some (.ref l) ∧ OwnAt K H0 dr H l (.own ds)
  | .dic kvs => ∃ l, v = some (.ref l) ∧ OwnAt K H0 dr H l (.dic kvs)
  | .drw => ∃ a, dr = some a ∧ v = some (.ref a)
  | .scr ns => ∃ a, v = some (.ref a) ∧ SqS K H a (ns.map V.int)

structure Rs (K : PySem.W.Frag) (H0 : Hp) (dr : Option Addr) (ρ : Rho) (σ : St) (H : Hp) : Prop where
  fr : Fr H0 dr H
  len : σ.length = ρ.length
  sl : ∀ (i : Nat) (sv : SV), ρ[i]? = some sv → SlotOk K H0 dr H (σ[i]?.join) sv
  sep : ∀ (i j : Nat) (si sj : SV) (l : Addr), ρ[i]? = some si → ρ[j]? = some sj → si.isOwn = true → sj.isOwn = true → σ[i]? = some (some (.ref l)) → σ[j]? = some (some (.ref l)) → i = j

/-- where a def is read -/
structure DC where
  X : Cx
  H0 : Hp
  dr : Option Addr
abbrev DC.K (C : DC) : PySem.W.Frag := C.X.K
abbrev DC.Rs (C : DC) (ρ : Rho) (σ : St) (H : Hp) : Prop := DW.Rs C.X.K C.H0 C.dr ρ σ H
abbrev DC.Rp (C : DC) (H : Hp) (v : V) (d : PyData) : Prop := DW.Rp C.X.K H v d
abbrev DC.RpL (C : DC) (H : Hp) (v : List V) (d : List PyData) : Prop := DW.RpL C.X.K H v d
def EvOk (K : PySem.W.Frag) (H : Hp) (σ : St) (v : V) : EV → Prop
  | .dat d => Rp K H v d
  | .ali i => σ[i]? = some (some v)
theorem EvOk.kt {K : PySem.W.Frag} {H H' : Hp} {σ : St} {v : V} (k : KT H H') : ∀ {ev : EV}, EvOk K H σ v ev → EvOk K H' σ v ev
  | .dat _, h => Rp.kt k h
  | .ali _, h => h

/-- an address that no slot owns, and that the caller does not know -/
structure New (H0 : Hp) (dr : Option Addr) (ρ : Rho) (σ : St) (p : Addr) : Prop where
  e : H0 p = none
  d : dr ≠ some p
  s : ∀ (i : Nat) (sv : SV), ρ[i]? = some sv → sv.isOwn = true → σ[i]? ≠ some (some (.ref p))

/-! ### the data's own wishes -/
def DE (C : DC) (ρ : Rho) (e : Expr) (k : EV → Rho → Prop) : Prop :=
  ∀ σ H (Q : VK), C.Rs ρ σ H → (∀ v ev ρ' H', KT H H' → C.Rs ρ' σ H' → EvOk C.X.K H' σ v ev → k ev ρ' → Q v H') → WE C.X e σ H Q
/-- a new list -/
def DL (C : DC) (ρ : Rho) (e : Expr) (k : List PyData → Rho → Prop) : Prop :=
  ∀ σ H (Q : VK), C.Rs ρ σ H → (∀ p vs ds ρ' H', KT H H' → C.Rs ρ' σ H' → New C.H0 C.dr ρ' σ p → H' p = some (.lst vs) → C.RpL H' vs ds → k ds ρ' → Q (.ref p) H') → WE C.X e σ H Q
def DT (C : DC) (ρ : Rho) (e : Expr) (k : Bool → Rho → Prop) : Prop :=
  ∀ σ H (Q : Bool → Hp → Prop), C.Rs ρ σ H → (∀ b ρ' H', KT H H' → C.Rs ρ' σ H' → k b ρ' → Q b H') → WT C.X e σ H Q
inductive EvsOk (K : PySem.W.Frag) (H : Hp) (σ : St) : List V → List EV → Prop
  | nil : EvsOk K H σ [] []
  | cons {v : V} {ev : EV} {vs : List V} {evs : List EV} : EvOk K H σ v ev → EvsOk K H σ vs evs → EvsOk K H σ (v :: vs) (ev :: evs)
def DA (C : DC) (ρ : Rho) (es : List Expr) (k : List EV → Rho → Prop) : Prop :=
  ∀ σ H (Q : List V → Hp → Prop), C.Rs ρ σ H → (∀ vs evs ρ' H', KT H H' → C.Rs ρ' σ H' → EvsOk C.X.K H' σ vs evs → k evs ρ' → Q vs H') → WA C.X es σ H Q
structure DEn where
  nx : Rho → Prop
  rt : RV → Prop
  bk : Rho → Prop
  ct : Rho → Prop
def RvOk (K : PySem.W.Frag) (H0 : Hp) (dr : Option Addr) (H : Hp) (v : V) : RV → Prop
  | .dat d => Rp K H v d
  | .lst ds => ∃ p vs, v = .ref p ∧ H0 p = none ∧ dr ≠ some p ∧ H p = some (.lst vs) ∧ RpL K H vs ds
structure Acc (C : DC) (H : Hp) (D : DEn) (E : Ends) : Prop where
  nx : ∀ ρ σ H', KT H H' → C.Rs ρ σ H' → D.nx ρ → E.nx σ H'
  rt : ∀ v rv H', KT H H' → Fr C.H0 C.dr H' → RvOk C.X.K C.H0 C.dr H' v rv → D.rt rv → E.rt v H'
  bk : ∀ ρ σ H', KT H H' → C.Rs ρ σ H' → D.bk ρ → E.bk σ H'
  ct : ∀ ρ σ H', KT H H' → C.Rs ρ σ H' → D.ct ρ → E.ct σ H'
def DS (C : DC) (ρ : Rho) (st : Stmt) (nx : Rho → Prop) (rt : RV → Prop) (bk ct : Rho → Prop) : Prop := ∀ σ H (E : Ends), C.Rs ρ σ H → Acc C H ⟨nx, rt, bk, ct⟩ E → WS C.X st E σ H
def DB (C : DC) (ρ : Rho) (sts : List Stmt) (nx : Rho → Prop) (rt : RV → Prop) (bk ct : Rho → Prop) : Prop := ∀ σ H (E : Ends), C.Rs ρ σ H → Acc C H ⟨nx, rt, bk, ct⟩ E → WB C.X sts E σ H

section
variable {C : DC} {ρ ρ' : Rho} {σ : St} {H H' : Hp} {e a b c : Expr} {es : List Expr} {pos : Pos} {k : EV → Rho → Prop}

/-! ### keeping -/
theorem Fr.ex {H0 H H' : Hp} {dr : Option Addr} (f : Fr H0 dr H) (e : Ex H H') : Fr H0 dr H' :=
  ⟨fun b o h n => e b o (f.ext b o h n), f.kt.trans e.kt, fun a h => by
    obtain ⟨g, m, c, q, r⟩ := f.drw a h
    exact ⟨g, m, c, e a _ q, r⟩⟩
theorem OwnAt.ex {K : PySem.W.Frag} {H0 H H' : Hp} {dr : Option Addr} {l : Addr} (e : Ex H H') : ∀ {sv : SV}, OwnAt K H0 dr H l sv → OwnAt K H0 dr H' l sv
  | .own _, ⟨a, b, vs, h, q⟩ => ⟨a, b, vs, e l _ h, q.kt e.kt⟩
  | .dic _, ⟨a, b, vs, h, q⟩ => ⟨a, b, vs, e l _ h, q.kt e.kt⟩
theorem SlotOk.ex {K : PySem.W.Frag} {H0 H H' : Hp} {dr : Option Addr} {v : Option V} (e : Ex H H') : ∀ {sv : SV}, SlotOk K H0 dr H v sv → SlotOk K H0 dr H' v sv
  | .no, _ => True.intro
  | .dat _, ⟨x, h, q⟩ => ⟨x, h, q.kt e.kt⟩
  | .own _, ⟨l, h, q⟩ => ⟨l, h, q.ex e⟩
  | .dic _, ⟨l, h, q⟩ => ⟨l, h, q.ex e⟩
  | .drw, h => h
  | .scr _, ⟨a, h, q⟩ => ⟨a, h, q.kt e.kt⟩
theorem Rs.ex {K : PySem.W.Frag} {H0 H H' : Hp} {dr : Option Addr} {ρ : Rho} {σ : St} (r : Rs K H0 dr ρ σ H) (e : Ex H H') : Rs K H0 dr ρ σ H' :=
  ⟨r.fr.ex e, r.len, fun i sv h => (r.sl i sv h).ex e, r.sep⟩
/-- a slot's value -/
theorem Rs.at {i : Nat} {sv : SV} (r : C.Rs ρ σ H) (h : ρ[i]? = some sv) : ∃ o, σ[i]? = some o := by
  have h1 : i < ρ.length := (List.getElem?_eq_some_iff.mp h).1
  rw [← r.len] at h1
  exact ⟨_, List.getElem?_eq_getElem h1⟩
theorem Rs.dat {i : Nat} {d : PyData} (r : C.Rs ρ σ H) (h : ρ[i]? = some (.dat d)) : ∃ x, σ[i]? = some (some x) ∧ C.Rp H x d := by
  obtain ⟨o, ho⟩ := Rs.at r h
  obtain ⟨x, h1, h2⟩ := r.sl i _ h
  rw [ho] at h1
  exact ⟨x, by rw [ho, show o = some x from h1], h2⟩
theorem Rs.own {i : Nat} {ds : List PyData} (r : C.Rs ρ σ H) (h : ρ[i]? = some (.own ds)) : ∃ l vs, σ[i]? = some (some (.ref l)) ∧ C.H0 l = none ∧ C.dr ≠ some l ∧ H l = some (.lst vs) ∧ C.RpL H vs ds := by
  obtain ⟨o, ho⟩ := Rs.at r h
  obtain ⟨l, h1, h2, h3, vs, h4, h5⟩ := r.sl i _ h
  rw [ho] at h1
  exact ⟨l, vs, by rw [ho, show o = some (.ref l) from h1], h2, h3, h4, h5⟩
theorem Rs.drw {i : Nat} (r : C.Rs ρ σ H) (h : ρ[i]? = some .drw) : ∃ a, σ[i]? = some (some (.ref a)) ∧ C.dr = some a := by
  obtain ⟨o, ho⟩ := Rs.at r h
  obtain ⟨a, h1, h2⟩ := r.sl i _ h
  rw [ho] at h2
  exact ⟨a, by rw [ho, show o = some (.ref a) from h2], h1⟩

/-! ### weakening -/
theorem DE.mono {k' : EV → Rho → Prop} (h : DE C ρ e k) (f : ∀ ev ρ', k ev ρ' → k' ev ρ') : DE C ρ e k' := fun σ H Q r q => h σ H Q r fun v ev ρ' H' kt r' ok hk => q v ev ρ' H' kt r' ok (f ev ρ' hk)
theorem Acc.kt {D : DEn} {E : Ends} (a : Acc C H D E) (k : KT H H') : Acc C H' D E :=
  ⟨fun ρ σ H2 q => a.nx ρ σ H2 (k.trans q), fun v rv H2 q => a.rt v rv H2 (k.trans q), fun ρ σ H2 q => a.bk ρ σ H2 (k.trans q), fun ρ σ H2 q => a.ct ρ σ H2 (k.trans q)⟩

/-! ### a new list as data that stays -/
theorem upd_ex_frz {p : Addr} {u : HO} {o : Obj} (hp : H p = some u) : ∀ b w, b ≠ p → H b = some w → upd H p (.frz o u) b = some w := fun b w n h => by
  rw [upd_ne n]
  exact h
theorem kt_frz {p : Addr} {vs : List V} {o : Obj} (hp : H p = some (.lst vs)) : KT H (upd H p (.frz o (.lst vs))) := ⟨fun b zs e => by
  rw [upd_ne (ne_of e hp (by intro z; cases z))]
  exact e, fun b o u e => by
  rw [upd_ne (ne_of e hp (by intro z; cases z))]
  exact e⟩
theorem Rs.frz {p : Addr} {vs : List V} {o : Obj} (r : C.Rs ρ σ H) (n : New C.H0 C.dr ρ σ p) (hp : H p = some (.lst vs)) : C.Rs ρ σ (upd H p (.frz o (.lst vs))) := by
  have kt := kt_frz (o := o) hp
  refine ⟨⟨fun b w h hd => ?_, r.fr.kt.trans kt, fun a h => ?_⟩, r.len, fun i sv h => ?_, r.sep⟩
  · rw [upd_ne (fun z => by rw [z, n.e] at h; cases h)]
    exact r.fr.ext b w h hd
  · obtain ⟨g, m, c, q, t⟩ := r.fr.drw a h
    exact ⟨g, m, c, by
      rw [upd_ne (fun z => n.d (by rw [h, z]))]
      exact q, t⟩
  · have hs := r.sl i sv h
    have hne : ∀ l, sv.isOwn = true → (σ[i]?.join) = some (.ref l) → l ≠ p := fun l ho e z => by
      subst z
      obtain ⟨w, hw⟩ := Rs.at r h
      rw [hw] at e
      exact n.s i sv h ho (by rw [hw, show w = some (.ref l) from e])
    cases sv with
    | no => exact True.intro
    | dat d =>
      obtain ⟨x, h1, h2⟩ := hs
      exact ⟨x, h1, h2.kt kt⟩
    | own ds =>
      obtain ⟨l, h1, h2, h3, ws, h4, h5⟩ := hs
      exact ⟨l, h1, h2, h3, ws, by
        rw [upd_ne (hne l rfl h1)]
        exact h4, h5.kt kt⟩
    | dic ds =>
      obtain ⟨l, h1, h2, h3, ws, h4, h5⟩ := hs
      exact ⟨l, h1, h2, h3, ws, by
        rw [upd_ne (hne l rfl h1)]
        exact h4, h5.kt kt⟩
    | drw => exact hs
    | scr ns =>
      obtain ⟨a, h1, h2⟩ := hs
      exact ⟨a, h1, h2.kt kt⟩
theorem DL.de (h : DL C ρ e fun ds ρ' => k (.dat (.list ds)) ρ') : DE C ρ e k := fun σ H Q r q =>
  (h σ H (fun v H' => ∃ p vs ds ρ', v = .ref p ∧ KT H H' ∧ C.Rs ρ' σ H' ∧ New C.H0 C.dr ρ' σ p ∧ H' p = some (.lst vs) ∧ C.RpL H' vs ds ∧ k (.dat (.list ds)) ρ') r
    fun p vs ds ρ' H' kt r' n hp hl hk => ⟨p, vs, ds, ρ', rfl, kt, r', n, hp, hl, hk⟩).thn fun pins s v u H' I rel ⟨p, vs, ds, ρ', hv, kt, r', n, hp, hl, hk⟩ => by
      obtain ⟨o, I'⟩ := freeze I hp (by intro xs z; cases z) (by intro o w z; cases z) (by intro ps z; cases z) (by intro a z; cases z)
      refine ⟨v, _, I', rel, q v _ ρ' _ (kt.trans (kt_frz hp)) (Rs.frz r' n hp) ?_ hk⟩
      rw [hv]
      exact Rp.lst ⟨o, upd_same⟩ (hl.kt (kt_frz hp))
end
end DW
namespace DW
open PySem L2

/-! ### data as it stands at the moment -/
inductive Mp (K : PySem.W.Frag) (H : Hp) : V → PyData → Prop
  | rp {v : V} {d : PyData} : Rp K H v d → Mp K H v d
  | own {l : Addr} {vs : List V} {ds : List PyData} : H l = some (.lst vs) → RpL K H vs ds → Mp K H (.ref l) (.list ds)
inductive MpL (K : PySem.W.Frag) (H : Hp) : List V → List PyData → Prop
  | nil : MpL K H [] []
  | cons {v : V} {vs : List V} {d : PyData} {ds : List PyData} : Mp K H v d → MpL K H vs ds → MpL K H (v :: vs) (d :: ds)
inductive DatOf (ρ : Rho) : EV → PyData → Prop
  | dat {d : PyData} : DatOf ρ (.dat d) d
  | own {i : Nat} {ds : List PyData} : ρ[i]? = some (.own ds) → DatOf ρ (.ali i) (.list ds)
inductive DatsOf (ρ : Rho) : List EV → List PyData → Prop
  | nil : DatsOf ρ [] []
  | cons {v : EV} {vs : List EV} {d : PyData} {ds : List PyData} : DatOf ρ v d → DatsOf ρ vs ds → DatsOf ρ (v :: vs) (d :: ds)
section
variable {C : DC} {ρ ρ' : Rho} {σ : St} {H H' : Hp} {e a b c : Expr} {es : List Expr} {pos : Pos} {k : EV → Rho → Prop}
theorem DatOf.mp {v : V} {d : PyData} {ev : EV} (h : DatOf ρ ev d) (r : C.Rs ρ σ H) (q : EvOk C.X.K H σ v ev) : Mp C.X.K H v d := by
  cases h with
  | dat => exact .rp q
  | own h =>
    obtain ⟨l, vs, h1, _, _, h2, h3⟩ := Rs.own r h
    have e := (show σ[_]? = some (some v) from q).symm.trans h1
    cases e
    exact .own h2 h3
theorem DatsOf.mp {evs : List EV} {ds : List PyData} (h : DatsOf ρ evs ds) (r : C.Rs ρ σ H) : ∀ {vs : List V}, EvsOk C.X.K H σ vs evs → MpL C.X.K H vs ds := by
  induction h with
  | nil => intro vs q; cases q; exact .nil
  | cons h _ ih =>
    intro vs q
    cases q with
    | cons q1 q2 => exact .cons (h.mp r q1) (ih q2)
theorem Mp.lst {K : PySem.W.Frag} {H : Hp} {v : V} {ds : List PyData} (h : Mp K H v (.list ds)) : ∃ l vs, v = .ref l ∧ SqL K H l vs ∧ RpL K H vs ds := by
  cases h with
  | rp h =>
    cases h with
    | lst h q => exact ⟨_, _, rfl, h.l, q⟩
  | own h q => exact ⟨_, _, rfl, .of h, q⟩
theorem Mp.rd {K : PySem.W.Frag} {H : Hp} {v : V} {ds : List PyData} (h : Mp K H v (.list ds)) : ∃ l vs, v = .ref l ∧ Rd H l (.lst vs) ∧ RpL K H vs ds := by
  cases h with
  | rp h =>
    cases h with
    | lst h q => exact ⟨_, _, rfl, .inr h, q⟩
  | own h q => exact ⟨_, _, rfl, .inl h, q⟩
theorem Mp.tup {K : PySem.W.Frag} {H : Hp} {v : V} {ds : List PyData} (h : Mp K H v (.tuple ds)) : ∃ l vs, v = .ref l ∧ SqT K H l vs ∧ RpL K H vs ds := by
  cases h with
  | rp h =>
    cases h with
    | tup h q => exact ⟨_, _, rfl, h, q⟩
theorem Mp.int {K : PySem.W.Frag} {H : Hp} {v : V} {i : Int} (h : Mp K H v (.int i)) : v = .int i := by
  cases h with
  | rp h => cases h; rfl
theorem Mp.str {K : PySem.W.Frag} {H : Hp} {v : V} {i : Str} (h : Mp K H v (.str i)) : v = .str i := by
  cases h with
  | rp h => cases h; rfl
theorem Mp.bl {K : PySem.W.Frag} {H : Hp} {v : V} {i : Bool} (h : Mp K H v (.bool i)) : v = .bl i := by
  cases h with
  | rp h => cases h; rfl
theorem Mp.non {K : PySem.W.Frag} {H : Hp} {v : V} (h : Mp K H v .none) : v = .non := by
  cases h with
  | rp h => cases h; rfl

/-! ### operations over data -/
def DOp (X : Cx) (f : Value → Value → Sem Value) (x y : PyData) (kd : PyData → Prop) : Prop :=
  ∀ pins s σ H (vx vy : V) (u w : Value) (Q : VK), Inv X pins σ H s → RelV vx u → RelV vy w → Mp X.K H vx x → Mp X.K H vy y → (∀ v d H', Ex H H' → Rp X.K H' v d → kd d → Q v H') →
    wpAny (model X.prog X.w) X.A (f u w) (EP X pins σ Q) X.xe s
/-- .. that give a new list -/
def DOpL (X : Cx) (f : Value → Value → Sem Value) (x y : PyData) (kd : List PyData → Prop) : Prop :=
  ∀ pins s σ H (vx vy : V) (u w : Value) (Q : VK), Inv X pins σ H s → RelV vx u → RelV vy w → Mp X.K H vx x → Mp X.K H vy y → (∀ p vs ds H', H p = none → Ex H H' → H' p = some (.lst vs) → RpL X.K H' vs ds → kd ds → Q (.ref p) H') →
    wpAny (model X.prog X.w) X.A (f u w) (EP X pins σ Q) X.xe s
def DUn (X : Cx) (f : Value → Sem Value) (x : PyData) (kd : PyData → Prop) : Prop :=
  ∀ pins s σ H (vx : V) (u : Value) (Q : VK), Inv X pins σ H s → RelV vx u → Mp X.K H vx x → (∀ v d H', Ex H H' → Rp X.K H' v d → kd d → Q v H') →
    wpAny (model X.prog X.w) X.A (f u) (EP X pins σ Q) X.xe s
def DCall (X : Cx) (f : Value) (xs : List PyData) (kd : PyData → Prop) : Prop :=
  ∀ pins s σ H (vs : List V) (us : List Value) (Q : VK), Inv X pins σ H s → Vals vs us → MpL X.K H vs xs → (∀ v d H', Ex H H' → Rp X.K H' v d → kd d → Q v H') →
    wpAny (model X.prog X.w) X.A (call f us) (EP X pins σ Q) X.xe s
def DCallL (X : Cx) (f : Value) (xs : List PyData) (kd : List PyData → Prop) : Prop :=
  ∀ pins s σ H (vs : List V) (us : List Value) (Q : VK), Inv X pins σ H s → Vals vs us → MpL X.K H vs xs → (∀ p vs ds H', H p = none → Ex H H' → H' p = some (.lst vs) → RpL X.K H' vs ds → kd ds → Q (.ref p) H') →
    wpAny (model X.prog X.w) X.A (call f us) (EP X pins σ Q) X.xe s

theorem New.of_none {p : Addr} (r : C.Rs ρ σ H) (h : H p = none) : New C.H0 C.dr ρ σ p := by
  refine ⟨?_, fun e => ?_, fun i sv hs ho e => ?_⟩
  · cases h1 : C.H0 p with
    | none => rfl
    | some o =>
      exfalso
      by_cases hd : C.dr = some p
      · obtain ⟨g, m, c, q, _⟩ := r.fr.drw p hd
        rw [h] at q
        cases q
      · have := r.fr.ext p o h1 hd
        rw [h] at this
        cases this
  · obtain ⟨g, m, c, q, _⟩ := r.fr.drw p e
    rw [h] at q
    cases q
  · have hs' := r.sl i sv hs
    cases sv with
    | own ds =>
      obtain ⟨l, h1, _, _, vs, h2, _⟩ := hs'
      rw [e] at h1
      cases h1
      rw [h] at h2
      cases h2
    | dic ds =>
      obtain ⟨l, h1, _, _, vs, h2, _⟩ := hs'
      rw [e] at h1
      cases h1
      rw [h] at h2
      cases h2
    | no => cases ho
    | dat d => cases ho
    | drw => cases ho
    | scr ns => cases ho

/-! ### names, constants -/
theorem de_dat {i : Nat} {x : Str} {d : PyData} (q : k (.dat d) ρ) (h : ρ[i]? = some (.dat d)) (hN : C.X.N[i]? = some x) (hv : Vis C.X.env.scope x) (hd : (x == ("__debug__" : Str)) = false := by decide) (hcd : (x == ("__classdict__" : Str)) = false := by decide) :
    DE C ρ (.Name x pos) k := fun σ H Q r g => by
  obtain ⟨v, h1, h2⟩ := Rs.dat r h
  exact WE.of (pe_var hN hv hd hcd) ⟨v, h1, g v (.dat d) ρ H (KT.refl H) r h2 q⟩
theorem de_own {i : Nat} {x : Str} {ds : List PyData} (q : k (.ali i) ρ) (h : ρ[i]? = some (.own ds)) (hN : C.X.N[i]? = some x) (hv : Vis C.X.env.scope x) (hd : (x == ("__debug__" : Str)) = false := by decide) (hcd : (x == ("__classdict__" : Str)) = false := by decide) :
    DE C ρ (.Name x pos) k := fun σ H Q r g => by
  obtain ⟨l, vs, h1, _⟩ := Rs.own r h
  exact WE.of (pe_var hN hv hd hcd) ⟨.ref l, h1, g _ (.ali i) ρ H (KT.refl H) r h1 q⟩
theorem de_drw {i : Nat} {x : Str} (q : k (.ali i) ρ) (h : ρ[i]? = some .drw) (hN : C.X.N[i]? = some x) (hv : Vis C.X.env.scope x) (hd : (x == ("__debug__" : Str)) = false := by decide) (hcd : (x == ("__classdict__" : Str)) = false := by decide) :
    DE C ρ (.Name x pos) k := fun σ H Q r g => by
  obtain ⟨l, h1, _⟩ := Rs.drw r h
  exact WE.of (pe_var hN hv hd hcd) ⟨.ref l, h1, g _ (.ali i) ρ H (KT.refl H) r h1 q⟩
theorem de_int {i : Int} {j} (q : k (.dat (.int i)) ρ) : DE C ρ (.Constant (.int i) j pos) k := fun σ H Q r g => WE.of pe_int (g _ (.dat (.int i)) ρ H (KT.refl H) r (.int i) q)
theorem de_bl {i : Bool} {j} (q : k (.dat (.bool i)) ρ) : DE C ρ (.Constant (.bool i) j pos) k := fun σ H Q r g => WE.of pe_bl (g _ (.dat (.bool i)) ρ H (KT.refl H) r (.bl i) q)
theorem de_str {i : Str} {j} (q : k (.dat (.str i)) ρ) : DE C ρ (.Constant (.str i) j pos) k := fun σ H Q r g => WE.of pe_str (g _ (.dat (.str i)) ρ H (KT.refl H) r (.str i) q)
theorem de_non {j} (q : k (.dat .none) ρ) : DE C ρ (.Constant .none j pos) k := fun σ H Q r g => WE.of pe_non (g _ (.dat .none) ρ H (KT.refl H) r .non q)
theorem de_globI {x : Str} {i : Int} {t : Tok} (hm : C.X.mg x = some (.int i t)) (hg : Gl C.X x) (q : k (.dat (.int i)) ρ) (hd : (x == ("__debug__" : Str)) = false := by decide) : DE C ρ (.Name x pos) k := fun σ H Q r g =>
  WE.of (pe_glob (v := .int i) hg hm ⟨t, rfl⟩ hd) (g _ (.dat (.int i)) ρ H (KT.refl H) r (.int i) q)
theorem de_globS {x : Str} {i : Str} {t : Tok} (hm : C.X.mg x = some (.str i t)) (hg : Gl C.X x) (q : k (.dat (.str i)) ρ) (hd : (x == ("__debug__" : Str)) = false := by decide) : DE C ρ (.Name x pos) k := fun σ H Q r g =>
  WE.of (pe_glob (v := .str i) hg hm ⟨t, rfl⟩ hd) (g _ (.dat (.str i)) ρ H (KT.refl H) r (.str i) q)

/-! ### operators -/
theorem de_bin2 {f : Value → Value → Sem Value} {e0 : Expr} (hr : ∀ t u (r : R2), OpR C.X f r → PE C.X a t → PE C.X b u → PE C.X e0 (tOp r t u))
    (h : DE C ρ a fun x ρ1 => DE C ρ1 b fun y ρ2 => ∃ dx dy, DatOf ρ2 x dx ∧ DatOf ρ2 y dy ∧ DOp C.X f dx dy fun d => k (.dat d) ρ2) : DE C ρ e0 k := fun σ H Q r g => by
  have ho : OpR C.X f (fun x y H Q => ∀ pins s (v u : Value), Inv C.X pins σ H s → RelV x v → RelV y u → wpAny (model C.X.prog C.X.w) C.X.A (f v u) (EP C.X pins σ Q) C.X.xe s) → True := fun _ => trivial
  have hO : OpR C.X f (fun x y H Q => ∀ pins s σ (v u : Value), Inv C.X pins σ H s → RelV x v → RelV y u → wpAny (model C.X.prog C.X.w) C.X.A (f v u) (EP C.X pins σ Q) C.X.xe s) :=
    fun pins s σ H x y v u Q I rx ry z => z pins s σ v u I rx ry
  refine WE.of (hr _ _ _ hO WE.pe WE.pe) ?_
  show WE C.X a σ H _
  refine h σ H _ r fun v1 x ρ1 H1 k1 r1 o1 h1 => ?_
  refine h1 σ H1 _ r1 fun v2 y ρ2 H2 k2 r2 o2 h2 => ?_
  obtain ⟨dx, dy, hx, hy, hop⟩ := h2
  intro pins s σ' u w I rx ry
  -- the operation itself does not look at the slots
  refine hop pins s σ' H2 v1 v2 u w Q I rx ry (hx.mp r2 (o1.kt k2)) (hy.mp r2 o2) fun v d H' ex rp hk => ?_
  exact g v (.dat d) ρ2 H' ((k1.trans k2).trans ex.kt) (r2.ex ex) rp hk
theorem de_op {op : Operator} (h : DE C ρ a fun x ρ1 => DE C ρ1 b fun y ρ2 => ∃ dx dy, DatOf ρ2 x dx ∧ DatOf ρ2 y dy ∧ DOp C.X (binaryOp op) dx dy fun d => k (.dat d) ρ2) : DE C ρ (.BinOp a op b pos) k :=
  de_bin2 (fun _ _ _ ho ha hb => pe_op ho ha hb) h
theorem de_cmp {op : CmpOp} (h : DE C ρ a fun x ρ1 => DE C ρ1 b fun y ρ2 => ∃ dx dy, DatOf ρ2 x dx ∧ DatOf ρ2 y dy ∧ DOp C.X (compareOp op) dx dy fun d => k (.dat d) ρ2) (hm : behindInMarks op b = false := by first | exact nomark _ | rfl) : DE C ρ (.Compare a [op] [b] pos) k :=
  de_bin2 (fun _ _ _ ho ha hb => pe_cmpR ho ha hb hm) h
def DIx (X : Cx) (x y : PyData) (kd : PyData → Prop) : Prop :=
  ∀ H (vx vy : V) (Q : VK), Mp X.K H vx x → Mp X.K H vy y → (∀ v d, Rp X.K H v d → kd d → Q v H) → rIx X.K vx vy H Q
theorem de_ix (h : DE C ρ a fun x ρ1 => DE C ρ1 b fun y ρ2 => ∃ dx dy, DatOf ρ2 x dx ∧ DatOf ρ2 y dy ∧ DIx C.X dx dy fun d => k (.dat d) ρ2) (hs : PlainIx b := by exact fun _ _ => rfl) : DE C ρ (.Subscript a b pos) k := fun σ H Q r g => by
  refine WE.of (pe_ix ix_seq WE.pe WE.pe hs) ?_
  show WE C.X a σ H _
  refine h σ H _ r fun v1 x ρ1 H1 k1 r1 o1 h1 => ?_
  refine h1 σ H1 _ r1 fun v2 y ρ2 H2 k2 r2 o2 h2 => ?_
  obtain ⟨dx, dy, hx, hy, hop⟩ := h2
  exact hop H2 v1 v2 Q (hx.mp r2 (o1.kt k2)) (hy.mp r2 o2) fun v d rp hk => g v (.dat d) ρ2 H2 (k1.trans k2) r2 rp hk
theorem dix_tup {ds : List PyData} {i : Int} {d : PyData} {kd : PyData → Prop} (h : atI ds i = some d) (q : kd d) : DIx C.X (.tuple ds) (.int i) kd := fun H vx vy Q hx hy g => by
  obtain ⟨l, vs, rfl, h1, h2⟩ := hx.tup
  cases hy.int
  obtain ⟨j, hj, e⟩ : ∃ j, ixN ds.length i = some j ∧ ds[j]? = some d := by
    unfold atI at h
    cases e : ixN ds.length i with
    | none => rw [e] at h; cases h
    | some j => rw [e] at h; exact ⟨j, rfl, h⟩
  obtain ⟨v, hv, rv⟩ := h2.getD e
  exact .inr (.inl ⟨l, vs, i, v, rfl, rfl, h1, by unfold atI; rw [h2.length, hj]; exact hv, g v d rv q⟩)
theorem dix_lst {ds : List PyData} {i : Int} {d : PyData} {kd : PyData → Prop} (h : atI ds i = some d) (q : kd d) : DIx C.X (.list ds) (.int i) kd := fun H vx vy Q hx hy g => by
  obtain ⟨l, vs, rfl, h1, h2⟩ := hx.lst
  cases hy.int
  obtain ⟨j, hj, e⟩ : ∃ j, ixN ds.length i = some j ∧ ds[j]? = some d := by
    unfold atI at h
    cases e : ixN ds.length i with
    | none => rw [e] at h; cases h
    | some j => rw [e] at h; exact ⟨j, rfl, h⟩
  obtain ⟨v, hv, rv⟩ := h2.getD e
  exact .inl ⟨l, vs, i, v, rfl, rfl, h1, by unfold atI; rw [h2.length, hj]; exact hv, g v d rv q⟩
theorem dix_str {z : Str} {i : Int} {c : Nat} {kd : PyData → Prop} (hz : z.length ≤ sizeLine) (h : atI z.cps.toList i = some c) (q : kd (.str ⟨#[c]⟩)) : DIx C.X (.str z) (.int i) kd := fun H vx vy Q hx hy g => by
  cases hx.str
  cases hy.int
  exact .inr (.inr ⟨z, i, c, rfl, rfl, hz, h, g _ _ (.str _) q⟩)
theorem de_un {op : UnaryOp} (h : DE C ρ a fun x ρ1 => ∃ dx, DatOf ρ1 x dx ∧ DUn C.X (unaryOp op) dx fun d => k (.dat d) ρ1) : DE C ρ (.UnaryOp op a pos) k := fun σ H Q r g => by
  have hO : UnR C.X (unaryOp op) (fun x H Q => ∀ pins s σ (v : Value), Inv C.X pins σ H s → RelV x v → wpAny (model C.X.prog C.X.w) C.X.A (unaryOp op v) (EP C.X pins σ Q) C.X.xe s) :=
    fun pins s σ H x v Q I rx z => z pins s σ v I rx
  refine WE.of (pe_un hO WE.pe) ?_
  show WE C.X a σ H _
  refine h σ H _ r fun v1 x ρ1 H1 k1 r1 o1 h1 => ?_
  obtain ⟨dx, hx, hop⟩ := h1
  intro pins s σ' u I rx
  exact hop pins s σ' H1 v1 u Q I rx (hx.mp r1 o1) fun v d H' ex rp hk => g v (.dat d) ρ1 H' (k1.trans ex.kt) (r1.ex ex) rp hk

/-! ### single operations -/
theorem DOp.of {f : Value → Value → Sem Value} {r : R2} {x y : PyData} {kd : PyData → Prop} (ho : OpR C.X f r)
    (h : ∀ H (vx vy : V) (Q : VK), Mp C.X.K H vx x → Mp C.X.K H vy y → (∀ v d H', Ex H H' → Rp C.X.K H' v d → kd d → Q v H') → r vx vy H Q) : DOp C.X f x y kd :=
  fun pins s σ H vx vy u w Q I rx ry mx my g => ho pins s σ H vx vy u w Q I rx ry (h H vx vy Q mx my g)
theorem DOp.int0 {f : Value → Value → Sem Value} {g : Int → Int → V} {i j : Int} {d : PyData} {kd : PyData → Prop} (ho : OpR C.X f (rI0 g)) (hd : ∀ H, Rp C.X.K H (g i j) d) (q : kd d) : DOp C.X f (.int i) (.int j) kd :=
  DOp.of ho fun H vx vy Q mx my z => by
    cases mx.int
    cases my.int
    exact ⟨i, j, rfl, rfl, z _ d H (Ex.refl H) (hd H) q⟩
theorem DOp.intC {f : Value → Value → Sem Value} {P : Int → Int → Prop} {g : Int → Int → V} {i j : Int} {d : PyData} {kd : PyData → Prop} (ho : OpR C.X f (rI P g)) (hp : P i j) (hd : ∀ H, Rp C.X.K H (g i j) d) (q : kd d) : DOp C.X f (.int i) (.int j) kd :=
  DOp.of ho fun H vx vy Q mx my z => by
    cases mx.int
    cases my.int
    exact ⟨i, j, rfl, rfl, hp, z _ d H (Ex.refl H) (hd H) q⟩
section
variable {i j : Int} {kd : PyData → Prop}
theorem do_add (q : kd (.int (i + j))) : DOp C.X (binaryOp .Add) (.int i) (.int j) kd := .int0 op_add (fun _ => .int _) q
theorem do_sub (q : kd (.int (i - j))) : DOp C.X (binaryOp .Sub) (.int i) (.int j) kd := .int0 op_sub (fun _ => .int _) q
theorem do_mul (q : kd (.int (i * j))) (hc : CMul i j) : DOp C.X (binaryOp .Mult) (.int i) (.int j) kd := .intC op_mul hc (fun _ => .int _) q
theorem do_fdiv (q : kd (.int (i / j))) (hc : CDiv i j) : DOp C.X (binaryOp .FloorDiv) (.int i) (.int j) kd := .intC op_fdiv hc (fun _ => .int _) q
theorem do_mod (q : kd (.int (i % j))) (hc : 0 < j) : DOp C.X (binaryOp .Mod) (.int i) (.int j) kd := .intC op_mod hc (fun _ => .int _) q
theorem do_pow (q : kd (.int (i ^ j.toNat))) (hc : CPow i j) : DOp C.X (binaryOp .Pow) (.int i) (.int j) kd := .intC op_pow hc (fun _ => .int _) q
theorem do_lt (q : kd (.bool (decide (i < j)))) : DOp C.X (compareOp .Lt) (.int i) (.int j) kd := .int0 op_lt (fun _ => .bl _) q
theorem do_le (q : kd (.bool (decide (i ≤ j)))) : DOp C.X (compareOp .LtE) (.int i) (.int j) kd := .int0 op_le (fun _ => .bl _) q
theorem do_gt (q : kd (.bool (decide (j < i)))) : DOp C.X (compareOp .Gt) (.int i) (.int j) kd := .int0 op_gt (fun _ => .bl _) q
theorem do_ge (q : kd (.bool (decide (j ≤ i)))) : DOp C.X (compareOp .GtE) (.int i) (.int j) kd := .int0 op_ge (fun _ => .bl _) q
end
end
end DW
namespace DW
open PySem L2

/-! ### the library's reading of such data -/
section
variable {X : Cx} {pins : List (Addr × Obj)} {σ : St} {H : Hp} {s : Shared}
mutual
theorem rp_reads (I : Inv X pins σ H s) : ∀ (d : PyData) (v : V) (u : Value), Rp X.K H v d → RelV v u → ∃ as, Reads s.heap u d as
  | .none, _, _, h, r => by
    cases h
    cases r
    exact ⟨_, Reads.none⟩
  | .bool b, _, _, h, r => by
    cases h
    cases r
    exact ⟨_, Reads.bool b⟩
  | .int i, _, _, h, r => by
    cases h
    obtain ⟨t, rfl⟩ := r
    exact ⟨_, Reads.int i t⟩
  | .str x, _, _, h, r => by
    cases h
    obtain ⟨t, rfl⟩ := r
    exact ⟨_, Reads.str x t⟩
  | .list ds, _, _, h, r => by
    cases h with
    | lst hs ha =>
      cases r
      obtain ⟨its, rv, ⟨o, n, ho, hc, _, hd⟩, _⟩ := I.list hs.l
      obtain ⟨as, hr⟩ := rpl_reads I ds _ its ha rv
      exact ⟨_, Reads.list ho hc hd hr⟩
  | .tuple ds, _, _, h, r => by
    cases h with
    | tup hs ha =>
      cases r
      obtain ⟨its, rv, ⟨o, ho, hc, n, hd⟩, _⟩ := I.tuple hs
      obtain ⟨as, hr⟩ := rpl_reads I ds _ its ha rv
      exact ⟨_, Reads.tuple ho hc hd hr⟩
  | .dict kvs, _, _, h, r => by
    cases h with
    | @dic a o hs =>
      cases r
      obtain ⟨_, _, _, vs, r0, ob, es, ep, he, hc, hd, _, hes, _⟩ := (show ObjOk X.prog X.w H s.heap a (.frz o (.dK [])) from I.hok a _ hs)
      cases r0
      have hes' : es.toList = [] := List.length_eq_zero_iff.mp (by rw [hes.length]; rfl)
      exact ⟨_, Reads.dict (kvs := []) he hc.1 hd (by rw [hes']; exact ReadsAll.nil) (by rw [hes']; exact ReadsAll.nil)⟩
theorem rpl_reads (I : Inv X pins σ H s) : ∀ (ds : List PyData) (vs : List V) (us : List Value), RpL X.K H vs ds → Vals vs us → ∃ as, ReadsAll s.heap us ds as
  | [], _, _, h, r => by
    cases h
    cases r
    exact ⟨_, ReadsAll.nil⟩
  | d :: ds, _, _, h, r => by
    cases h with
    | cons h1 h2 =>
      cases r with
      | cons r1 r2 =>
        obtain ⟨as, q1⟩ := rp_reads I d _ _ h1 r1
        obtain ⟨bs, q2⟩ := rpl_reads I ds _ _ h2 r2
        exact ⟨_, ReadsAll.cons q1 q2⟩
end
theorem mp_reads (I : Inv X pins σ H s) {d : PyData} {v : V} {u : Value} (h : Mp X.K H v d) (r : RelV v u) : ∃ as, Reads s.heap u d as := by
  cases h with
  | rp h => exact rp_reads I d v u h r
  | own hl hs =>
    cases r
    obtain ⟨its, rv, ⟨o, n, ho, hc, _, hd⟩, _⟩ := I.list (SqL.of hl)
    obtain ⟨as, hr⟩ := rpl_reads I _ _ its hs rv
    exact ⟨_, Reads.list ho hc hd hr⟩
end

section
variable {C : DC} {ρ ρ' : Rho} {σ : St} {H H' : Hp} {e a b c : Expr} {es : List Expr} {pos : Pos} {k : EV → Rho → Prop} {kd : PyData → Prop}
/-- room for a comparison of data -/
def Rm (C : DC) : Prop := C.X.A.units + 200 < cLine
theorem Rm.u64 (h : Rm C) : C.X.A.units + 64 < cLine := by unfold Rm at h; omega
theorem Rm.u0 (h : Rm C) : C.X.A.units < cLine := by unfold Rm at h; omega
theorem do_eq {x y : PyData} (hm : Rm C) (hx : SeqAt.shaped x = true) (hy : SeqAt.shaped y = true) (q : kd (.bool (PyData.eqv x y))) : DOp C.X (compareOp .Eq) x y kd := fun pins s σ H vx vy u w Q I rx ry mx my g => by
  obtain ⟨as, r1⟩ := mp_reads I mx rx
  obtain ⟨bs, r2⟩ := mp_reads I my ry
  exact SeqAt.compareEq_shaped r1 r2 hx hy hm.u64 ⟨.bl _, H, I, rfl, g _ _ H (Ex.refl H) (.bl _) q⟩
theorem do_ne {x y : PyData} (hm : Rm C) (hx : SeqAt.shaped x = true) (hy : SeqAt.shaped y = true) (q : kd (.bool (!PyData.eqv x y))) : DOp C.X (compareOp .NotEq) x y kd := fun pins s σ H vx vy u w Q I rx ry mx my g => by
  obtain ⟨as, r1⟩ := mp_reads I mx rx
  obtain ⟨bs, r2⟩ := mp_reads I my ry
  exact SeqAt.compareNe_shaped r1 r2 hx hy hm.u64 ⟨.bl _, H, I, rfl, g _ _ H (Ex.refl H) (.bl _) q⟩
theorem do_eqS {x y : Str} (q : kd (.bool (decide (x = y)))) : DOp C.X (compareOp .Eq) (.str x) (.str y) kd :=
  DOp.of op_eq fun H vx vy Q mx my z => by
    cases mx.str
    cases my.str
    refine ⟨rfl, ?_⟩
    have e : decide (V.str x = V.str y) = decide (x = y) := by rw [decide_eq_decide]; exact ⟨fun h => V.str.inj h, fun h => by rw [h]⟩
    rw [e]
    exact z _ _ H (Ex.refl H) (.bl _) q
theorem do_neS {x y : Str} (q : kd (.bool (!decide (x = y)))) : DOp C.X (compareOp .NotEq) (.str x) (.str y) kd :=
  DOp.of op_ne fun H vx vy Q mx my z => by
    cases mx.str
    cases my.str
    refine ⟨rfl, ?_⟩
    have e : decide (V.str x = V.str y) = decide (x = y) := by rw [decide_eq_decide]; exact ⟨fun h => V.str.inj h, fun h => by rw [h]⟩
    rw [e]
    exact z _ _ H (Ex.refl H) (.bl _) q
theorem do_eqI {x y : Int} (q : kd (.bool (decide (x = y)))) : DOp C.X (compareOp .Eq) (.int x) (.int y) kd :=
  DOp.of op_eq fun H vx vy Q mx my z => by
    cases mx.int
    cases my.int
    refine ⟨rfl, ?_⟩
    have e : decide (V.int x = V.int y) = decide (x = y) := by rw [decide_eq_decide]; exact ⟨fun h => V.int.inj h, fun h => by rw [h]⟩
    rw [e]
    exact z _ _ H (Ex.refl H) (.bl _) q
theorem do_neI {x y : Int} (q : kd (.bool (!decide (x = y)))) : DOp C.X (compareOp .NotEq) (.int x) (.int y) kd :=
  DOp.of op_ne fun H vx vy Q mx my z => by
    cases mx.int
    cases my.int
    refine ⟨rfl, ?_⟩
    have e : decide (V.int x = V.int y) = decide (x = y) := by rw [decide_eq_decide]; exact ⟨fun h => V.int.inj h, fun h => by rw [h]⟩
    rw [e]
    exact z _ _ H (Ex.refl H) (.bl _) q
theorem do_eqB {x y : Bool} (q : kd (.bool (decide (x = y)))) : DOp C.X (compareOp .Eq) (.bool x) (.bool y) kd :=
  DOp.of op_eq fun H vx vy Q mx my z => by
    cases mx.bl
    cases my.bl
    refine ⟨rfl, ?_⟩
    have e : decide (V.bl x = V.bl y) = decide (x = y) := by rw [decide_eq_decide]; exact ⟨fun h => V.bl.inj h, fun h => by rw [h]⟩
    rw [e]
    exact z _ _ H (Ex.refl H) (.bl _) q
theorem do_neB {x y : Bool} (q : kd (.bool (!decide (x = y)))) : DOp C.X (compareOp .NotEq) (.bool x) (.bool y) kd :=
  DOp.of op_ne fun H vx vy Q mx my z => by
    cases mx.bl
    cases my.bl
    refine ⟨rfl, ?_⟩
    have e : decide (V.bl x = V.bl y) = decide (x = y) := by rw [decide_eq_decide]; exact ⟨fun h => V.bl.inj h, fun h => by rw [h]⟩
    rw [e]
    exact z _ _ H (Ex.refl H) (.bl _) q
theorem nil_size (its : List Value) (ds : List PyData) (vs : List V) (h1 : Vals vs its) (h2 : RpL C.X.K H vs ds) : its.length = ds.length := by rw [← h1.length, h2.length]
/-- a list against [] -/
theorem do_eqL0 {ds : List PyData} (hm : Rm C) (q : kd (.bool ds.isEmpty)) : DOp C.X (compareOp .Eq) (.list ds) (.list []) kd := fun pins s σ H vx vy u w Q I rx ry mx my g => by
  obtain ⟨l, vs, rfl, h1, h2⟩ := mx.lst
  obtain ⟨l', vs', rfl, h1', h2'⟩ := my.lst
  cases rx
  cases ry
  cases h2'
  obtain ⟨its, rv, ⟨o, n, ho, hc, _, hd⟩, _⟩ := I.list h1
  obtain ⟨its', rv', ⟨o', n', ho', hc', _, hd'⟩, _⟩ := I.list h1'
  cases rv'
  have e := nil_size its ds vs rv h2
  cases ds with
  | nil =>
    have e0 : its = [] := List.length_eq_zero_iff.mp e
    subst e0
    exact SeqAt.eq_listAt (e := fun _ => true) ⟨o, ho, hc, n, hd⟩ ⟨o', ho', hc', n', hd'⟩ rfl hm.u0 (fun j j1 _ => absurd j1 (Nat.not_lt_zero _)) ⟨.bl true, H, I, rfl, g _ _ H (Ex.refl H) (.bl _) q⟩
  | cons d ds =>
    refine SeqAt.eq_list_lengthsAt ⟨o, ho, hc, n, hd⟩ ⟨o', ho', hc', n', hd'⟩ ?_ hm.u0 ⟨.bl false, H, I, rfl, g _ _ H (Ex.refl H) (.bl _) q⟩
    rw [List.size_toArray, e]
    rfl
theorem do_neL0 {ds : List PyData} (hm : Rm C) (q : kd (.bool (!ds.isEmpty))) : DOp C.X (compareOp .NotEq) (.list ds) (.list []) kd := fun pins s σ H vx vy u w Q I rx ry mx my g => by
  obtain ⟨l, vs, rfl, h1, h2⟩ := mx.lst
  obtain ⟨l', vs', rfl, h1', h2'⟩ := my.lst
  cases rx
  cases ry
  cases h2'
  obtain ⟨its, rv, ⟨o, n, ho, hc, _, hd⟩, _⟩ := I.list h1
  obtain ⟨its', rv', ⟨o', n', ho', hc', _, hd'⟩, _⟩ := I.list h1'
  cases rv'
  have e := nil_size its ds vs rv h2
  cases ds with
  | nil =>
    have e0 : its = [] := List.length_eq_zero_iff.mp e
    subst e0
    exact SeqAt.RcNeAt.lists (e := fun _ => true) ⟨o, ho, hc, n, hd⟩ ⟨o', ho', hc', n', hd'⟩ rfl hm.u0 (fun j j1 _ => absurd j1 (Nat.not_lt_zero _)) _ _ _ _ ⟨.bl false, H, I, rfl, g _ _ H (Ex.refl H) (.bl _) q⟩
  | cons d ds =>
    refine SeqAt.RcNeAt.lists_lengths ⟨o, ho, hc, n, hd⟩ ⟨o', ho', hc', n', hd'⟩ ?_ hm.u0 _ _ _ _ ⟨.bl true, H, I, rfl, g _ _ H (Ex.refl H) (.bl _) q⟩
    rw [List.size_toArray, e]
    rfl
/-- a tuple against () -/
theorem do_eqT0 {ds : List PyData} (hm : Rm C) (q : kd (.bool ds.isEmpty)) : DOp C.X (compareOp .Eq) (.tuple ds) (.tuple []) kd := fun pins s σ H vx vy u w Q I rx ry mx my g => by
  obtain ⟨l, vs, rfl, h1, h2⟩ := mx.tup
  obtain ⟨l', vs', rfl, h1', h2'⟩ := my.tup
  cases rx
  cases ry
  cases h2'
  obtain ⟨its, rv, ⟨o, ho, hc, n, hd⟩, _⟩ := I.tuple h1
  obtain ⟨its', rv', ⟨o', ho', hc', n', hd'⟩, _⟩ := I.tuple h1'
  cases rv'
  have e := nil_size its ds vs rv h2
  refine SeqAt.eq_tupleAt (e := fun _ => true) ⟨o, ho, hc, n, hd⟩ ⟨o', ho', hc', n', hd'⟩ hm.u0 (fun j _ j1 => absurd j1 (Nat.not_lt_zero _)) ?_
  have e2 : ((List.range (min its.toArray.size (#[] : Array Value).size)).all (fun _ => true) && its.toArray.size == (#[] : Array Value).size) = ds.isEmpty := by
    rw [List.size_toArray, e]
    cases ds with
    | nil => rfl
    | cons d ds =>
      rw [List.isEmpty_cons]
      simp
  show EP C.X pins σ Q (.bool ((List.range (min its.toArray.size (#[] : Array Value).size)).all (fun _ => true) && its.toArray.size == (#[] : Array Value).size)) s
  rw [e2]
  exact ⟨.bl _, H, I, rfl, g _ _ H (Ex.refl H) (.bl _) q⟩
/-- is None -/
def isN : PyData → Bool
  | .none => true
  | _ => false
theorem isN_mp {K : PySem.W.Frag} {v : V} {d : PyData} (h : Mp K H v d) : decide (v = .non) = isN d := by
  cases h with
  | rp h => cases h <;> first | rfl | (exact decide_eq_false (fun z => nomatch z))
  | own h q => exact decide_eq_false (fun z => nomatch z)
theorem do_isN {x : PyData} (q : kd (.bool (isN x))) : DOp C.X (compareOp .Is) x .none kd := DOp.of op_isN fun H vx vy Q mx my z => by
  cases my.non
  refine ⟨rfl, ?_⟩
  rw [isN_mp mx]
  exact z _ _ H (Ex.refl H) (.bl _) q
theorem do_notN {x : PyData} (q : kd (.bool (!isN x))) : DOp C.X (compareOp .IsNot) x .none kd := DOp.of op_notN fun H vx vy Q mx my z => by
  cases my.non
  refine ⟨rfl, ?_⟩
  rw [isN_mp mx]
  exact z _ _ H (Ex.refl H) (.bl _) q

/-! ### tests -/
def WW (X : Cx) (e : Expr) : TT := fun σ H Q => ∀ whole pins s, Inv X pins σ H s → wpAny (model X.prog X.w) X.A (isTrue e X.env whole) (TP X pins σ Q) X.xe s
theorem WW.pw {X : Cx} : PW X e (WW X e) := ⟨fun whole pins s _ _ _ I h => h whole pins s I⟩
theorem WW.of {X : Cx} {t : TT} {Q : Bool → Hp → Prop} (h : PW X e t) (q : t σ H Q) : WW X e σ H Q := fun whole pins s I => h.run whole pins s σ H Q I q
def DW (C : DC) (ρ : Rho) (e : Expr) (k : Bool → Rho → Prop) : Prop :=
  ∀ σ H (Q : Bool → Hp → Prop), C.Rs ρ σ H → (∀ b ρ' H', KT H H' → C.Rs ρ' σ H' → k b ρ' → Q b H') → WW C.X e σ H Q
variable {kt : Bool → Rho → Prop}
theorem DW.dt (h : DW C ρ e kt) : DT C ρ e kt := fun σ H Q r g => fun pins s I => h σ H Q r g _ pins s I
theorem dt_cmp {op : CmpOp} (h : DE C ρ a fun x ρ1 => DE C ρ1 b fun y ρ2 => ∃ dx dy, DatOf ρ2 x dx ∧ DatOf ρ2 y dy ∧ DOp C.X (compareOp op) dx dy fun d => ∃ t, d = .bool t ∧ kt t ρ2) (hm : behindInMarks op b = false := by first | exact nomark _ | rfl) :
    DT C ρ (.Compare a [op] [b] pos) kt := fun σ H Q r g => by
  have hO : OpR C.X (compareOp op) (fun x y H Q => ∀ pins s σ (v u : Value), Inv C.X pins σ H s → RelV x v → RelV y u → wpAny (model C.X.prog C.X.w) C.X.A (compareOp op v u) (EP C.X pins σ Q) C.X.xe s) :=
    fun pins s σ H x y v u Q I rx ry z => z pins s σ v u I rx ry
  refine WT.of (pt_cmpR hO WE.pe WE.pe hm) ?_
  show WE C.X a σ H _
  refine h σ H _ r fun v1 x ρ1 H1 k1 r1 o1 h1 => ?_
  refine h1 σ H1 _ r1 fun v2 y ρ2 H2 k2 r2 o2 h2 => ?_
  obtain ⟨dx, dy, hx, hy, hop⟩ := h2
  intro pins s σ' u w I rx ry
  refine hop pins s σ' H2 v1 v2 u w _ I rx ry (hx.mp r2 (o1.kt k2)) (hy.mp r2 o2) fun v d H' ex rp hk => ?_
  obtain ⟨t, rfl, hk⟩ := hk
  cases rp
  exact ⟨t, rfl, g t ρ2 H' ((k1.trans k2).trans ex.kt) (r2.ex ex) hk⟩
/-- any expression, by its truth -/
inductive Truth : PyData → Bool → Prop
  | bl (b : Bool) : Truth (.bool b) b
  | non : Truth .none false
  | int (i : Int) : Truth (.int i) (i != 0)
  | lst (ds : List PyData) : Truth (.list ds) (!ds.isEmpty)
  | tup (ds : List PyData) : Truth (.tuple ds) (!ds.isEmpty)
theorem dt_val (h : DE C ρ e fun x ρ1 => ∃ b, x = .dat (.bool b) ∧ kt b ρ1) (he : ∀ whole, isTrue e C.X.env whole = (do let v ← whole; standAt e.pos; holding [v] (truthy v)) := by intro _; rfl) : DT C ρ e kt := fun σ H Q r g => by
  refine WT.of (pt_val WE.pe he) ?_
  show WE C.X e σ H _
  refine h σ H _ r fun v1 x ρ1 H1 k1 r1 o1 h1 => ?_
  obtain ⟨b, rfl, hk⟩ := h1
  cases o1
  exact ⟨b, rfl, g b ρ1 H1 k1 r1 hk⟩
theorem dt_not (h : DT C ρ a fun b ρ1 => kt (!b) ρ1) : DT C ρ (.UnaryOp .Not a pos) kt := fun σ H Q r g => by
  refine WT.of (pt_not WT.pt) ?_
  show WT C.X a σ H _
  exact h σ H _ r fun b ρ1 H1 k1 r1 h1 => g _ ρ1 H1 k1 r1 h1
variable {rest : List Expr}
theorem dw_and (h : DT C ρ a fun b1 ρ1 => (b1 = true → DW C ρ1 (.BoolOp .And (b :: rest) pos) kt) ∧ (b1 = false → kt false ρ1)) : DW C ρ (.BoolOp .And (a :: b :: rest) pos) kt := fun σ H Q r g => by
  refine WW.of (pw_and WT.pt WW.pw) ?_
  show WT C.X a σ H _
  refine h σ H _ r fun b1 ρ1 H1 k1 r1 h1 => ?_
  cases b1 with
  | true => exact iteT (h1.1 rfl σ H1 Q r1 fun b ρ2 H2 k2 r2 h2 => g b ρ2 H2 (k1.trans k2) r2 h2)
  | false => exact iteF (g false ρ1 H1 k1 r1 (h1.2 rfl))
theorem dw_or (h : DT C ρ a fun b1 ρ1 => (b1 = true → kt true ρ1) ∧ (b1 = false → DW C ρ1 (.BoolOp .Or (b :: rest) pos) kt)) : DW C ρ (.BoolOp .Or (a :: b :: rest) pos) kt := fun σ H Q r g => by
  refine WW.of (pw_or WT.pt WW.pw) ?_
  show WT C.X a σ H _
  refine h σ H _ r fun b1 ρ1 H1 k1 r1 h1 => ?_
  cases b1 with
  | true => exact iteT (g true ρ1 H1 k1 r1 (h1.1 rfl))
  | false => exact iteF (h1.2 rfl σ H1 Q r1 fun b ρ2 H2 k2 r2 h2 => g b ρ2 H2 (k1.trans k2) r2 h2)
theorem dw_and1 (h : DT C ρ a kt) : DW C ρ (.BoolOp .And [a] pos) kt := fun σ H Q r g => WW.of (pw_and1 WT.pt) (h σ H Q r g)
theorem dw_or1 (h : DT C ρ a kt) : DW C ρ (.BoolOp .Or [a] pos) kt := fun σ H Q r g => WW.of (pw_or1 WT.pt) (h σ H Q r g)
/-! as values -/
theorem de_and (h : DE C ρ a fun x ρ1 => ∃ t, x = .dat (.bool t) ∧ (t = true → DE C ρ1 (.BoolOp .And (b :: rest) pos) k) ∧ (t = false → k (.dat (.bool false)) ρ1)) : DE C ρ (.BoolOp .And (a :: b :: rest) pos) k := fun σ H Q r g => by
  refine WE.of (pe_and WE.pe WE.pe) ?_
  show WE C.X a σ H _
  refine h σ H _ r fun v1 x ρ1 H1 k1 r1 o1 h1 => ?_
  obtain ⟨t, rfl, h2, h3⟩ := h1
  cases o1
  refine ⟨t, rfl, ?_⟩
  cases t with
  | true => exact iteT (h2 rfl σ H1 Q r1 fun v ev ρ2 H2 k2 r2 o2 hk => g v ev ρ2 H2 (k1.trans k2) r2 o2 hk)
  | false => exact iteF (g _ (.dat (.bool false)) ρ1 H1 k1 r1 (Rp.bl false) (h3 rfl))
theorem de_or (h : DE C ρ a fun x ρ1 => ∃ t, x = .dat (.bool t) ∧ (t = true → k (.dat (.bool true)) ρ1) ∧ (t = false → DE C ρ1 (.BoolOp .Or (b :: rest) pos) k)) : DE C ρ (.BoolOp .Or (a :: b :: rest) pos) k := fun σ H Q r g => by
  refine WE.of (pe_or WE.pe WE.pe) ?_
  show WE C.X a σ H _
  refine h σ H _ r fun v1 x ρ1 H1 k1 r1 o1 h1 => ?_
  obtain ⟨t, rfl, h2, h3⟩ := h1
  cases o1
  refine ⟨t, rfl, ?_⟩
  cases t with
  | true => exact iteT (g _ (.dat (.bool true)) ρ1 H1 k1 r1 (Rp.bl true) (h2 rfl))
  | false => exact iteF (h3 rfl σ H1 Q r1 fun v ev ρ2 H2 k2 r2 o2 hk => g v ev ρ2 H2 (k1.trans k2) r2 o2 hk)
theorem de_one {op} (h : DE C ρ a k) : DE C ρ (.BoolOp op [a] pos) k := fun σ H Q r g => WE.of (pe_one WE.pe) (h σ H Q r g)
theorem de_not (h : DE C ρ a fun x ρ1 => ∃ t, x = .dat (.bool t) ∧ k (.dat (.bool (!t))) ρ1) : DE C ρ (.UnaryOp .Not a pos) k := fun σ H Q r g => by
  refine WE.of (pe_not WE.pe) ?_
  show WE C.X a σ H _
  refine h σ H _ r fun v1 x ρ1 H1 k1 r1 o1 h1 => ?_
  obtain ⟨t, rfl, h2⟩ := h1
  cases o1
  exact ⟨t, rfl, g _ (.dat (.bool _)) ρ1 H1 k1 r1 (Rp.bl _) h2⟩
theorem de_if (h : DT C ρ c fun t ρ1 => (t = true → DE C ρ1 a k) ∧ (t = false → DE C ρ1 b k)) : DE C ρ (.IfExp c a b pos) k := fun σ H Q r g => by
  refine WE.of (pe_ifExp WT.pt WE.pe WE.pe) ?_
  show WT C.X c σ H _
  refine h σ H _ r fun t ρ1 H1 k1 r1 h1 => ?_
  cases t with
  | true => exact iteT (h1.1 rfl σ H1 Q r1 fun v ev ρ2 H2 k2 r2 o2 hk => g v ev ρ2 H2 (k1.trans k2) r2 o2 hk)
  | false => exact iteF (h1.2 rfl σ H1 Q r1 fun v ev ρ2 H2 k2 r2 o2 hk => g v ev ρ2 H2 (k1.trans k2) r2 o2 hk)
/-! chains a < b < c -/
theorem chain_core {op op' : CmpOp} {Q : VK} (r : C.Rs ρ σ H) (h : DE C ρ a fun x ρ1 => DE C ρ1 b fun y ρ2 => ∃ dx dy, DatOf ρ2 x dx ∧ y = .dat dy ∧ DOp C.X (compareOp op) dx dy fun d => ∃ t, d = .bool t ∧ (t = true → DE C ρ2 c fun z ρ3 => ∃ dz, DatOf ρ3 z dz ∧ DOp C.X (compareOp op') dy dz fun d => k (.dat d) ρ3) ∧ (t = false → k (.dat (.bool false)) ρ2))
    (g : ∀ v ev ρ' H', KT H H' → C.Rs ρ' σ H' → EvOk C.X.K H' σ v ev → k ev ρ' → Q v H') :
    tChain (fun x y H Q => ∀ pins s σ (v u : Value), Inv C.X pins σ H s → RelV x v → RelV y u → wpAny (model C.X.prog C.X.w) C.X.A (compareOp op v u) (EP C.X pins σ Q) C.X.xe s)
      (fun x y H Q => ∀ pins s σ (v u : Value), Inv C.X pins σ H s → RelV x v → RelV y u → wpAny (model C.X.prog C.X.w) C.X.A (compareOp op' v u) (EP C.X pins σ Q) C.X.xe s) (WE C.X a) (WE C.X b) (WE C.X c) σ H Q := by
  refine h σ H _ r fun v1 x ρ1 H1 k1 r1 o1 h1 => ?_
  refine h1 σ H1 _ r1 fun v2 y ρ2 H2 k2 r2 o2 h2 => ?_
  obtain ⟨dx, dy, hx, rfl, hop⟩ := h2
  intro pins s σ' u w I rx ry
  refine hop pins s σ' H2 v1 v2 u w _ I rx ry (hx.mp r2 (o1.kt k2)) (.rp o2) fun v d H3 ex rp hk => ?_
  obtain ⟨t, rfl, ht, hf⟩ := hk
  cases rp
  refine ⟨t, rfl, ?_⟩
  have k3 := (k1.trans k2).trans ex.kt
  cases t with
  | false => exact iteF (g _ (.dat (.bool false)) ρ2 H3 k3 (r2.ex ex) (Rp.bl false) (hf rfl))
  | true =>
    refine iteT ?_
    refine ht rfl σ H3 _ (r2.ex ex) fun v3 z ρ3 H4 k4 r4 o4 h4 => ?_
    obtain ⟨dz, hz, hop'⟩ := h4
    intro pins s σ' u w I rx ry
    refine hop' pins s σ' H4 v2 v3 u w _ I rx ry (.rp (Rp.kt (ex.kt.trans k4) o2)) (hz.mp r4 o4) fun v d H5 ex5 rp hk => ?_
    exact g v (.dat d) ρ3 H5 ((k3.trans k4).trans ex5.kt) (r4.ex ex5) rp hk
theorem opAny {X : Cx} (o : CmpOp) : OpR X (compareOp o) (fun x y H Q => ∀ pins s σ (v u : Value), Inv X pins σ H s → RelV x v → RelV y u → wpAny (model X.prog X.w) X.A (compareOp o v u) (EP X pins σ Q) X.xe s) :=
  fun pins s σ H x y v u Q I rx ry z => z pins s σ v u I rx ry
theorem de_chain {op op' : CmpOp} (h : DE C ρ a fun x ρ1 => DE C ρ1 b fun y ρ2 => ∃ dx dy, DatOf ρ2 x dx ∧ y = .dat dy ∧ DOp C.X (compareOp op) dx dy fun d => ∃ t, d = .bool t ∧ (t = true → DE C ρ2 c fun z ρ3 => ∃ dz, DatOf ρ3 z dz ∧ DOp C.X (compareOp op') dy dz fun d => k (.dat d) ρ3) ∧ (t = false → k (.dat (.bool false)) ρ2))
    (hm : lastMarks [op, op'] [b, c] = false := by with_unfolding_all rfl) : DE C ρ (.Compare a [op, op'] [b, c] pos) k := fun σ H Q r g =>
  WE.of (pe_chain (opAny op) (opAny op') WE.pe WE.pe WE.pe hm) (chain_core r h g)
theorem dt_chain {op op' : CmpOp} (h : DE C ρ a fun x ρ1 => DE C ρ1 b fun y ρ2 => ∃ dx dy, DatOf ρ2 x dx ∧ y = .dat dy ∧ DOp C.X (compareOp op) dx dy fun d => ∃ t, d = .bool t ∧ (t = true → DE C ρ2 c fun z ρ3 => ∃ dz, DatOf ρ3 z dz ∧ DOp C.X (compareOp op') dy dz fun d => ∃ t, d = .bool t ∧ kt t ρ3) ∧ (t = false → kt false ρ2))
    (hm : lastMarks [op, op'] [b, c] = false := by with_unfolding_all rfl) : DT C ρ (.Compare a [op, op'] [b, c] pos) kt := fun σ H Q r g => by
  refine WT.of (pt_chain (opAny op) (opAny op') WE.pe WE.pe WE.pe hm) ?_
  refine chain_core (k := fun ev ρ' => ∃ t, ev = .dat (.bool t) ∧ kt t ρ') r (h.mono fun x ρ1 h1 => h1.mono fun y ρ2 h2 => ?_) fun v ev ρ' H' k' r' o' hk => ?_
  · obtain ⟨dx, dy, hx, hy, hop⟩ := h2
    refine ⟨dx, dy, hx, hy, fun pins s σ H vx vy u w Q I rx ry mx my gg => hop pins s σ H vx vy u w Q I rx ry mx my fun v d H' ex rp hk => gg v d H' ex rp ?_⟩
    obtain ⟨t, e, h1, h2⟩ := hk
    refine ⟨t, e, fun ht => (h1 ht).mono fun z ρ3 h3 => ?_, fun hf => ⟨false, rfl, h2 hf⟩⟩
    obtain ⟨dz, hz, hop'⟩ := h3
    refine ⟨dz, hz, fun pins s σ H vx vy u w Q I rx ry mx my gg => hop' pins s σ H vx vy u w Q I rx ry mx my fun v d H' ex rp hk => gg v d H' ex rp ?_⟩
    obtain ⟨t, rfl, hk⟩ := hk
    exact ⟨t, rfl, hk⟩
  · obtain ⟨t, rfl, hk⟩ := hk
    cases o'
    exact ⟨t, rfl, g t ρ' H' k' r' hk⟩
end
end DW
namespace DW
open PySem L2
section
variable {C : DC} {ρ ρ' : Rho} {σ : St} {H H' : Hp} {e a b c : Expr} {es : List Expr} {pos p apos : Pos} {k : EV → Rho → Prop} {kd : PyData → Prop} {kl : List PyData → Rho → Prop} {ka : List EV → Rho → Prop}
theorem EvsOk.kt {K : PySem.W.Frag} (q : KT H H') : ∀ {vs : List V} {evs : List EV}, EvsOk K H σ vs evs → EvsOk K H' σ vs evs
  | _, _, .nil => .nil
  | _, _, .cons h t => .cons (h.kt q) (EvsOk.kt q t)
/-! ### arguments, displays -/
theorem da_nil (q : ka [] ρ) : DA C ρ [] ka := fun σ H Q r g => WA.of pa_nil (g [] [] ρ H (KT.refl H) r .nil q)
theorem da_cons (h : DE C ρ e fun ev ρ1 => DA C ρ1 es fun evs ρ2 => ka (ev :: evs) ρ2) (hs : starEach (e :: es) C.X.env = (false, eval e C.X.env) :: starEach es C.X.env := by rfl) : DA C ρ (e :: es) ka := fun σ H Q r g => by
  refine WA.of (pa_cons WE.pe WA.pa hs) ?_
  show WE C.X e σ H _
  refine h σ H _ r fun v ev ρ1 H1 k1 r1 o1 h1 => ?_
  refine h1 σ H1 _ r1 fun vs evs ρ2 H2 k2 r2 o2 h2 => ?_
  exact g _ _ ρ2 H2 (k1.trans k2) r2 (.cons (o1.kt k2) o2) h2
/-- all of them data that stays -/
inductive Dats : List EV → List PyData → Prop
  | nil : Dats [] []
  | cons {d : PyData} {evs : List EV} {ds : List PyData} : Dats evs ds → Dats (.dat d :: evs) (d :: ds)
theorem Dats.rpl {K : PySem.W.Frag} {evs : List EV} {ds : List PyData} (h : Dats evs ds) : ∀ {vs : List V}, EvsOk K H σ vs evs → RpL K H vs ds := by
  induction h with
  | nil => intro vs q; cases q; exact .nil
  | cons h ih =>
    intro vs q
    cases q with
    | cons q1 q2 => exact .cons q1 (ih q2)
theorem de_tup {x1} (h : DA C ρ es fun evs ρ1 => ∃ ds, Dats evs ds ∧ ds.length ≤ sizeLine ∧ k (.dat (.tuple ds)) ρ1) : DE C ρ (.Tuple es x1 pos) k := fun σ H Q r g => by
  refine WE.of (pe_tup WA.pa) ?_
  show WA C.X es σ H _
  refine h σ H _ r fun vs evs ρ1 H1 k1 r1 o1 h1 => ?_
  obtain ⟨ds, hd, hz, hk⟩ := h1
  have hl := hd.rpl o1
  refine ⟨by rw [hl.length]; exact hz, fun p np => ?_⟩
  have ex : Ex H1 (upd H1 p (.tup vs)) := Ex.new np
  exact g _ (.dat (.tuple ds)) ρ1 _ (k1.trans ex.kt) (r1.ex ex) (Rp.tup (SqT.of upd_same) (hl.kt ex.kt)) hk
theorem dl_lst (h : DA C ρ es fun evs ρ1 => ∃ ds, Dats evs ds ∧ ds.length ≤ sizeLine ∧ kl ds ρ1) : DL C ρ (.List es pos) kl := fun σ H Q r g => by
  refine WE.of (pe_lst WA.pa) ?_
  show WA C.X es σ H _
  refine h σ H _ r fun vs evs ρ1 H1 k1 r1 o1 h1 => ?_
  obtain ⟨ds, hd, hz, hk⟩ := h1
  have hl := hd.rpl o1
  refine ⟨by rw [hl.length]; exact hz, fun p np => ?_⟩
  have ex : Ex H1 (upd H1 p (.lst vs)) := Ex.new np
  exact g p vs ds ρ1 _ (k1.trans ex.kt) (r1.ex ex) (New.of_none r1 np) upd_same (hl.kt ex.kt) hk

/-! ### built-ins called by name -/
theorem de_callB {x : Str} {id : String} (hv : bootBuiltins x = some (.builtin id)) (hm : C.X.mg x = none) (hg : Gl C.X x) (h : DA C ρ (e :: es) fun evs ρ1 => ∃ ds, DatsOf ρ1 evs ds ∧ DCall C.X (.builtin id) ds fun d => k (.dat d) ρ1)
    (hn : x ≠ "__name__" := by decide) (hdb : (x == ("__debug__" : Str)) = false := by decide) (he : starEach (e :: es) C.X.env = (false, eval e C.X.env) :: starEach es C.X.env := by rfl) (hpl : (backTo pos (starEach es C.X.env)).any (·.1) = false := by rfl) :
    DE C ρ (.Call (.Name x p) (e :: es) [] pos) k := fun σ H Q r g => by
  have hc : CallR C.X (.builtin id) (fun xs H Q => ∀ pins s σ (us : List Value), Inv C.X pins σ H s → Vals xs us → wpAny (model C.X.prog C.X.w) C.X.A (call (.builtin id) us) (EP C.X pins σ Q) C.X.xe s) :=
    fun pins s σ H xs us Q I rv z => z pins s σ us I rv
  refine WE.of (pe_callB hc hg hm hv WA.pa hn hdb he hpl) ?_
  show WA C.X (e :: es) σ H _
  refine h σ H _ r fun vs evs ρ1 H1 k1 r1 o1 h1 => ?_
  obtain ⟨ds, hd, hop⟩ := h1
  intro pins s σ' us I rv
  exact hop pins s σ' H1 vs us Q I rv (hd.mp r1 o1) fun v d H' ex rp hk => g v (.dat d) ρ1 H' (k1.trans ex.kt) (r1.ex ex) rp hk
theorem de_callT {x : Str} {id : String} (hv : bootBuiltins x = some (.type id)) (hm : C.X.mg x = none) (hg : Gl C.X x) (h : DA C ρ (e :: es) fun evs ρ1 => ∃ ds, DatsOf ρ1 evs ds ∧ DCall C.X (.type id) ds fun d => k (.dat d) ρ1)
    (hn : x ≠ "__name__" := by decide) (hdb : (x == ("__debug__" : Str)) = false := by decide) (he : starEach (e :: es) C.X.env = (false, eval e C.X.env) :: starEach es C.X.env := by rfl) (hpl : (backTo pos (starEach es C.X.env)).any (·.1) = false := by rfl) :
    DE C ρ (.Call (.Name x p) (e :: es) [] pos) k := fun σ H Q r g => by
  have hc : CallR C.X (.type id) (fun xs H Q => ∀ pins s σ (us : List Value), Inv C.X pins σ H s → Vals xs us → wpAny (model C.X.prog C.X.w) C.X.A (call (.type id) us) (EP C.X pins σ Q) C.X.xe s) :=
    fun pins s σ H xs us Q I rv z => z pins s σ us I rv
  refine WE.of (pe_callTy hc hg hm hv WA.pa hn hdb he hpl) ?_
  show WA C.X (e :: es) σ H _
  refine h σ H _ r fun vs evs ρ1 H1 k1 r1 o1 h1 => ?_
  obtain ⟨ds, hd, hop⟩ := h1
  intro pins s σ' us I rv
  exact hop pins s σ' H1 vs us Q I rv (hd.mp r1 o1) fun v d H' ex rp hk => g v (.dat d) ρ1 H' (k1.trans ex.kt) (r1.ex ex) rp hk
theorem dl_callT {x : Str} {id : String} (hv : bootBuiltins x = some (.type id)) (hm : C.X.mg x = none) (hg : Gl C.X x) (h : DA C ρ (e :: es) fun evs ρ1 => ∃ ds, DatsOf ρ1 evs ds ∧ DCallL C.X (.type id) ds fun d => kl d ρ1)
    (hn : x ≠ "__name__" := by decide) (hdb : (x == ("__debug__" : Str)) = false := by decide) (he : starEach (e :: es) C.X.env = (false, eval e C.X.env) :: starEach es C.X.env := by rfl) (hpl : (backTo pos (starEach es C.X.env)).any (·.1) = false := by rfl) :
    DL C ρ (.Call (.Name x p) (e :: es) [] pos) kl := fun σ H Q r g => by
  have hc : CallR C.X (.type id) (fun xs H Q => ∀ pins s σ (us : List Value), Inv C.X pins σ H s → Vals xs us → wpAny (model C.X.prog C.X.w) C.X.A (call (.type id) us) (EP C.X pins σ Q) C.X.xe s) :=
    fun pins s σ H xs us Q I rv z => z pins s σ us I rv
  refine WE.of (pe_callTy hc hg hm hv WA.pa hn hdb he hpl) ?_
  show WA C.X (e :: es) σ H _
  refine h σ H _ r fun vs evs ρ1 H1 k1 r1 o1 h1 => ?_
  obtain ⟨ds, hd, hop⟩ := h1
  intro pins s σ' us I rv
  exact hop pins s σ' H1 vs us Q I rv (hd.mp r1 o1) fun p vs ds H' np ex hp rp hk => g p vs ds ρ1 H' (k1.trans ex.kt) (r1.ex ex) (by
    have n := New.of_none r1 np
    exact n) hp rp hk

theorem MpL.one {K : PySem.W.Frag} {vs : List V} {d : PyData} (h : MpL K H vs [d]) : ∃ v, vs = [v] ∧ Mp K H v d := by
  cases h with
  | cons h t => cases t; exact ⟨_, rfl, h⟩
theorem MpL.two {K : PySem.W.Frag} {vs : List V} {d d' : PyData} (h : MpL K H vs [d, d']) : ∃ v v', vs = [v, v'] ∧ Mp K H v d ∧ Mp K H v' d' := by
  cases h with
  | cons h t =>
    cases t with
    | cons h' t => cases t; exact ⟨_, _, rfl, h, h'⟩
theorem DCall.of {f : Value} {r : List V → Hp → VK → Prop} {xs : List PyData} (ho : CallR C.X f r)
    (h : ∀ H (vs : List V) (Q : VK), MpL C.X.K H vs xs → (∀ v d H', Ex H H' → Rp C.X.K H' v d → kd d → Q v H') → r vs H Q) : DCall C.X f xs kd :=
  fun pins s σ H vs us Q I rv mv g => ho pins s σ H vs us Q I rv (h H vs Q mv g)
theorem dc_len {d : PyData} {n : Nat} (q : kd (.int n)) (h : match d with | .str z => z.length = n ∧ n ≤ sizeLine | .list ds => ds.length = n | .tuple ds => ds.length = n | _ => False) : DCall C.X (.builtin "len") [d] kd :=
  DCall.of call_len fun H vs Q mv g => by
    obtain ⟨v, rfl, mu⟩ := mv.one
    cases d with
    | str z =>
      cases mu.str
      refine ⟨_, n, rfl, ?_, g _ _ H (Ex.refl H) (.int _) q⟩
      exact ⟨by rw [h.1]; exact h.2, h.1.symm⟩
    | list ds =>
      obtain ⟨l, ws, rfl, h1, h2⟩ := mu.lst
      exact ⟨_, n, rfl, .inl ⟨ws, h1, by rw [h2.length]; exact h.symm⟩, g _ _ H (Ex.refl H) (.int _) q⟩
    | tuple ds =>
      obtain ⟨l, ws, rfl, h1, h2⟩ := mu.tup
      exact ⟨_, n, rfl, .inr ⟨ws, h1, by rw [h2.length]; exact h.symm⟩, g _ _ H (Ex.refl H) (.int _) q⟩
    | none => exact h.elim
    | bool _ => exact h.elim
    | int _ => exact h.elim
    | dict _ => exact h.elim
theorem dc_abs {i : Int} (q : kd (.int (if i < 0 then -i else i))) : DCall C.X (.builtin "abs") [.int i] kd := DCall.of call_abs fun H vs Q mv g => by
  obtain ⟨v, rfl, mu⟩ := mv.one
  cases mu.int
  exact ⟨i, rfl, g _ _ H (Ex.refl H) (.int _) q⟩
theorem dc_min2 {i j : Int} (hc : C.X.calm = true) (q : kd (.int (if j < i then j else i))) : DCall C.X (.builtin "min") [.int i, .int j] kd := DCall.of (call_min2 hc) fun H vs Q mv g => by
  obtain ⟨v, v', rfl, mu, mu'⟩ := mv.two
  cases mu.int
  cases mu'.int
  exact ⟨i, j, rfl, g _ _ H (Ex.refl H) (.int _) q⟩
theorem dc_max2 {i j : Int} (hc : C.X.calm = true) (q : kd (.int (if j > i then j else i))) : DCall C.X (.builtin "max") [.int i, .int j] kd := DCall.of (call_max2 hc) fun H vs Q mv g => by
  obtain ⟨v, v', rfl, mu, mu'⟩ := mv.two
  cases mu.int
  cases mu'.int
  exact ⟨i, j, rfl, g _ _ H (Ex.refl H) (.int _) q⟩
theorem dc_intB {b : Bool} (q : kd (.int (if b then 1 else 0))) : DCall C.X (.type "int") [.bool b] kd := DCall.of call_int1 fun H vs Q mv g => by
  obtain ⟨v, rfl, mu⟩ := mv.one
  cases mu.bl
  exact .inr ⟨b, rfl, g _ _ H (Ex.refl H) (.int _) q⟩
theorem dc_tupL {ds : List PyData} (q : kd (.tuple ds)) : DCall C.X (.type "tuple") [.list ds] kd := DCall.of call_tuple_of fun H vs Q mv g => by
  obtain ⟨v, rfl, mu⟩ := mv.one
  obtain ⟨l, ws, rfl, h1, h2⟩ := mu.lst
  refine ⟨l, ws, rfl, .inl ⟨h1, fun p np => ?_⟩⟩
  have ex : Ex H (upd H p (.tup ws)) := Ex.new np
  exact g _ _ _ ex (Rp.tup (SqT.of upd_same) (h2.kt ex.kt)) q
theorem dc_tupT {ds : List PyData} (q : kd (.tuple ds)) : DCall C.X (.type "tuple") [.tuple ds] kd := DCall.of call_tuple_of fun H vs Q mv g => by
  obtain ⟨v, rfl, mu⟩ := mv.one
  obtain ⟨l, ws, rfl, h1, h2⟩ := mu.tup
  exact ⟨l, ws, rfl, .inr ⟨h1, g _ _ H (Ex.refl H) (Rp.tup h1 h2) q⟩⟩
theorem dcl_list {d : PyData} {ds : List PyData} {kd : List PyData → Prop} (q : kd ds) (h : d = .list ds ∨ d = .tuple ds) : DCallL C.X (.type "list") [d] kd := fun pins s σ H vs us Q I rv mv g => by
  obtain ⟨v, rfl, mu⟩ := mv.one
  obtain ⟨l, ws, rfl, h1, h2⟩ : ∃ l ws, v = .ref l ∧ (SqL C.X.K H l ws ∨ SqT C.X.K H l ws) ∧ RpL C.X.K H ws ds := by
    rcases h with rfl | rfl
    · obtain ⟨l, ws, rfl, h1, h2⟩ := mu.lst
      exact ⟨l, ws, rfl, .inl h1, h2⟩
    · obtain ⟨l, ws, rfl, h1, h2⟩ := mu.tup
      exact ⟨l, ws, rfl, .inr h1, h2⟩
  refine call_list_of pins s σ H _ us Q I rv ⟨l, ws, rfl, h1, fun p np => ?_⟩
  have ex : Ex H (upd H p (.lst ws)) := Ex.new np
  exact g p ws ds _ np ex upd_same (h2.kt ex.kt) q
/-- sums, all, any, greatest ones over a list -/
theorem dc_sum {ns : List Int} (hc : C.X.calm = true) (q : kd (.int ns.sum)) : DCall C.X (.builtin "sum") [.list (ns.map .int)] kd := DCall.of (cr_sum hc) fun H vs Q mv g => by
  obtain ⟨v, rfl, mu⟩ := mv.one
  obtain ⟨l, ws, rfl, h1, h2⟩ := mu.lst
  rw [h2.ints] at h1
  exact ⟨l, ns, rfl, h1, g _ _ H (Ex.refl H) (.int _) q⟩
theorem RpL.bools {K : PySem.W.Frag} : ∀ {vs : List V} {bs : List Bool}, RpL K H vs (bs.map .bool) → vs = bs.map V.bl
  | _, [], h => by cases h; rfl
  | _, n :: ns, h => by
    cases h with
    | cons h q =>
      cases h
      rw [RpL.bools q]
      rfl
theorem dc_all {bs : List Bool} (hc : C.X.calm = true) (q : kd (.bool (bs.all id))) : DCall C.X (.builtin "all") [.list (bs.map .bool)] kd := DCall.of (cr_all hc) fun H vs Q mv g => by
  obtain ⟨v, rfl, mu⟩ := mv.one
  obtain ⟨l, ws, rfl, h1, h2⟩ := mu.lst
  rw [h2.bools] at h1
  exact ⟨l, bs, rfl, h1, g _ _ H (Ex.refl H) (.bl _) q⟩
theorem dc_any {bs : List Bool} (hc : C.X.calm = true) (q : kd (.bool (bs.any id))) : DCall C.X (.builtin "any") [.list (bs.map .bool)] kd := DCall.of (cr_any hc) fun H vs Q mv g => by
  obtain ⟨v, rfl, mu⟩ := mv.one
  obtain ⟨l, ws, rfl, h1, h2⟩ := mu.lst
  rw [h2.bools] at h1
  exact ⟨l, bs, rfl, h1, g _ _ H (Ex.refl H) (.bl _) q⟩
theorem dc_max {ns : List Int} (hc : C.X.calm = true) (hn : 0 < ns.length) (q : ∀ m, m ∈ ns → (∀ n ∈ ns, n ≤ m) → kd (.int m)) : DCall C.X (.builtin "max") [.list (ns.map .int)] kd := DCall.of (cr_max hc) fun H vs Q mv g => by
  obtain ⟨v, rfl, mu⟩ := mv.one
  obtain ⟨l, ws, rfl, h1, h2⟩ := mu.lst
  rw [h2.ints] at h1
  exact ⟨l, ns, rfl, h1, hn, fun m hm hle => g _ _ H (Ex.refl H) (.int _) (q m hm hle)⟩

/-! ### isinstance -/
def tyName : PyData → String
  | .none => "NoneType"
  | .bool _ => "bool"
  | .int _ => "int"
  | .str _ => "str"
  | .list _ => "list"
  | .tuple _ => "tuple"
  | .dict _ => "dict"
theorem mp_ty {K : PySem.W.Frag} {v : V} {d : PyData} (h : Mp K H v d) : TyX K H v (.type (tyName d)) := by
  cases h with
  | own h q => exact .base (.lst h)
  | rp h =>
    cases h with
    | non => exact .base .non
    | bl b => exact .base (.bl b)
    | int i => exact .base (.int i)
    | str x => exact .base (.str x)
    | tup h q =>
      rcases h with (h | ⟨o, h⟩) | ⟨o, its, n, h1, h2, _⟩
      · exact .base (.tup h)
      · exact .fTuple h
      · exact .kTuple h1 h2
    | lst h q =>
      obtain ⟨o, h⟩ := h
      exact .base (.frz h)
    | dic h => exact .fDict h
theorem de_isi {x : Expr} {p2 : Pos} {T : Str} {tn : String} (hm : C.X.mg "isinstance" = none) (hmT : C.X.mg T = none) (hg : Gl C.X "isinstance") (hgT : Gl C.X T) (hvT : bootBuiltins T = some (.type tn))
    (h : DE C ρ x fun ev ρ1 => ∃ d b, DatOf ρ1 ev d ∧ kitB (tyName d) tn = some b ∧ k (.dat (.bool b)) ρ1)
    (hnT : T ≠ "__name__" := by decide) (hdT : (T == ("__debug__" : Str)) = false := by decide)
    (he : starEach [x, .Name T p2] C.X.env = (false, eval x C.X.env) :: starEach [.Name T p2] C.X.env := by rfl) (he2 : starEach [.Name T p2] C.X.env = (false, eval (.Name T p2) C.X.env) :: starEach [] C.X.env := by rfl) (hpl : (backTo pos (starEach [.Name T p2] C.X.env)).any (·.1) = false := by rfl) :
    DE C ρ (.Call (.Name "isinstance" p) [x, .Name T p2] [] pos) k := fun σ H Q r g => by
  refine WE.of (pe_callB call_isi hg hm (by decide +kernel) (pa_cons WE.pe (pa_cons (pe_bltn (v := .ty tn) hgT hmT hvT rfl hnT hdT) pa_nil he2) he) (by decide) (by decide) he hpl) ?_
  show WE C.X x σ H _
  refine h σ H _ r fun v ev ρ1 H1 k1 r1 o1 h1 => ?_
  obtain ⟨d, b, hd, hb, hk⟩ := h1
  exact ⟨v, .ty tn, .type (tyName d), .type tn, b, rfl, .ty tn, mp_ty (hd.mp r1 o1), kit_ty hb, g _ (.dat (.bool b)) ρ1 H1 k1 r1 (Rp.bl b) hk⟩
end
end DW
namespace DW
open PySem L2

/-! ### defs -/
inductive AV where
  | dat (d : PyData) | drw | scr (ns : List Int)
def AV.sv : AV → SV
  | .dat d => .dat d
  | .drw => .drw
  | .scr ns => .scr ns
abbrev RV.data : RV → PyData
  | .dat d => d
  | .lst ds => .list ds
/-- what a def is worth over data -/
abbrev FS := List AV → (RV → Prop) → Prop
inductive ArgsOk (K : PySem.W.Frag) (H : Hp) (dr : Option Addr) : List V → List AV → Prop
  | nil : ArgsOk K H dr [] []
  | dat {v : V} {d : PyData} {vs : List V} {avs : List AV} : Rp K H v d → ArgsOk K H dr vs avs → ArgsOk K H dr (v :: vs) (.dat d :: avs)
  | drw {a : Addr} {vs : List V} {avs : List AV} : dr = some a → ArgsOk K H dr vs avs → ArgsOk K H dr (.ref a :: vs) (.drw :: avs)
  | scr {a : Addr} {ns : List Int} {vs : List V} {avs : List AV} : SqS K H a (ns.map V.int) → ArgsOk K H dr vs avs → ArgsOk K H dr (.ref a :: vs) (.scr ns :: avs)
theorem ArgsOk.length {K : PySem.W.Frag} {H : Hp} {dr : Option Addr} : ∀ {vs : List V} {avs : List AV}, ArgsOk K H dr vs avs → vs.length = avs.length
  | _, _, .nil => rfl
  | _, _, .dat _ t => by rw [List.length_cons, List.length_cons, t.length]
  | _, _, .drw _ t => by rw [List.length_cons, List.length_cons, t.length]
  | _, _, .scr _ t => by rw [List.length_cons, List.length_cons, t.length]
def spOf (K : PySem.W.Frag) (fs : FS) : Sp := fun vs H Q _ => ∃ (dr : Option Addr) (avs : List AV) (R : RV → Prop), (∀ a, dr = some a → Drawn H a) ∧ ArgsOk K H dr vs avs ∧ fs avs R ∧
  ∀ v rv H', Fr H dr H' → RvOk K H dr H' v rv → R rv → Q v H'
/-- the context of a def's body -/
abbrev fcx (P : Program) (w : World) (K : PySem.W.Frag) (mg : Str → Option Value) (base : Heap) (N : List Str) (qual : Str) (st : Stmt) (f : Addr) (cdv : Value) (A : Around) (outer : List Env) (s : Shared) (H : Hp) (E : XK) : Cx :=
  (cxOf CX0 P w K mg base N qual (defScope st) f cdv A outer s H E).nox
theorem args_slot {K : PySem.W.Frag} {H : Hp} {dr : Option Addr} : ∀ {vs : List V} {avs : List AV} {i : Nat} {sv : SV}, ArgsOk K H dr vs avs → (avs.map AV.sv)[i]? = some sv → ∃ v, vs[i]? = some v ∧ SlotOk K H dr H (some v) sv ∧ sv.isOwn = false
  | _, _, i, _, .nil, h => by simp at h
  | _, _, 0, _, .dat (v := v) r _, h => by
    simp at h
    subst h
    exact ⟨v, rfl, ⟨v, rfl, r⟩, rfl⟩
  | _, _, 0, _, .drw (a := a) r _, h => by
    simp at h
    subst h
    exact ⟨_, rfl, ⟨a, r, rfl⟩, rfl⟩
  | _, _, 0, _, .scr (a := a) r _, h => by
    simp at h
    subst h
    exact ⟨_, rfl, ⟨a, rfl, r⟩, rfl⟩
  | _, _, i + 1, sv, .scr _ t, h => by
    obtain ⟨v, h1, h2⟩ := args_slot (i := i) t (by simpa using h)
    exact ⟨v, by simpa using h1, h2⟩
  | _, _, i + 1, sv, .dat _ t, h => by
    obtain ⟨v, h1, h2⟩ := args_slot (i := i) t (by simpa using h)
    exact ⟨v, by simpa using h1, h2⟩
  | _, _, i + 1, sv, .drw _ t, h => by
    obtain ⟨v, h1, h2⟩ := args_slot (i := i) t (by simpa using h)
    exact ⟨v, by simpa using h1, h2⟩
theorem rs_start {K : PySem.W.Frag} {H : Hp} {dr : Option Addr} {N ps : List Str} {vs : List V} {avs : List AV} (hd : ∀ a, dr = some a → Drawn H a) (ha : ArgsOk K H dr vs avs) (hl : avs.length = ps.length) (hN : ps.length ≤ N.length) :
    Rs K H dr (avs.map AV.sv ++ List.replicate (N.length - ps.length) .no) (start N vs) H := by
  have hv := ha.length
  refine ⟨⟨fun _ _ h _ => h, KT.refl H, hd⟩, ?_, fun i sv h => ?_, fun i j si sj l hi hj oi oj => ?_⟩
  · unfold L2.start
    rw [List.length_append, List.length_append, List.length_map, List.length_map, List.length_replicate, List.length_replicate, hv, hl]
  · by_cases hi : i < avs.length
    · rw [List.getElem?_append_left (by rw [List.length_map]; exact hi)] at h
      obtain ⟨v, h1, h2, _⟩ := args_slot ha h
      have e : (start N vs)[i]? = some (some v) := by
        unfold L2.start
        rw [List.getElem?_append_left (by rw [List.length_map, hv]; exact hi), List.getElem?_map, h1]
        rfl
      rw [e]
      exact h2
    · rw [List.getElem?_append_right (by rw [List.length_map]; omega), List.getElem?_replicate] at h
      split at h
      · cases h
        exact True.intro
      · cases h
  · exfalso
    have hi' : si.isOwn = false := by
      by_cases hz : i < avs.length
      · rw [List.getElem?_append_left (by rw [List.length_map]; exact hz)] at hi
        obtain ⟨_, _, _, q⟩ := args_slot ha hi
        exact q
      · rw [List.getElem?_append_right (by rw [List.length_map]; omega), List.getElem?_replicate] at hi
        split at hi
        · cases hi; rfl
        · cases hi
    rw [hi'] at oi
    cases oi
/-- a def's promise, where no guard of a repr stands around -/
structure FnG (P : Program) (w : World) (K : PySem.W.Frag) (mg : Str → Option Value) (base : Heap) (k : Nat) (f : Addr) (fd : FuncData) (ps : List Str) (sp : Sp) : Prop where
  len : ∀ vs H Q E, sp vs H Q E → vs.length = ps.length
  run : ∀ (A : Around) (outer : List Env) (s : Shared) (H : Hp) (args : Args) (us : List Value) (vs : List V) (Q : VK) (E : XK), Room k A → A.guards = some [] →
    Env0 P w K mg base A outer s H → BindsTo s fd args (ps.zip us) → Vals vs us → sp vs H Q E →
    codeAny (model P w) A (.call (.ref f) args) (CR CX0 outer P w H s Q E) s
theorem FnG.mono {P : Program} {w : World} {K : PySem.W.Frag} {mg : Str → Option Value} {base : Heap} {j k : Nat} {f : Addr} {fd : FuncData} {ps : List Str} {sp : Sp} (F : FnG P w K mg base j f fd ps sp) (h : j ≤ k) : FnG P w K mg base k f fd ps sp :=
  ⟨F.len, fun A outer s H args us vs Q E hr => F.run A outer s H args us vs Q E (hr.mono h)⟩
theorem fnG_of {P : Program} {w : World} {K : PySem.W.Frag} {mg : Str → Option Value} {base : Heap} {x qual : Str} {st : Stmt} {f : Addr} {fd : FuncData} {N ps : List Str} {k : Nat} {sp : Sp} (F : Fun K x qual st f fd) (S : FnScope N ps (defScope st))
    (len : ∀ vs H Q E, sp vs H Q E → vs.length = ps.length)
    (hbody : ∀ (cdv : Value) (A : Around) (outer : List Env) (s : Shared) (H : Hp) (vs : List V) (Q : VK) (E : XK), Room k (A.deeper (PyProof.Rows.envOfC qual (defScope st) s.heap.objs.size f cdv)) → A.guards = some [] → sp vs H Q E →
      WB (fcx P w K mg base N qual st f cdv A outer s H E) (defBody st) { nx := fun _ H' => Q .non H', rt := Q } (L2.start N vs) H) : FnG P w K mg base (k + 1) f fd ps sp := by
  obtain ⟨oc, od, kV, doc, pm, an, cdv, ct, osl, rfl, lk, hcd⟩ := F.ex
  refine ⟨len, ?_⟩
  intro A outer s H args us vs Q E hr hgd e0 hb r hsp
  have hl := len vs H Q E hsp
  have kin : K.In s.heap := e0.mod.kin.keeps fun b o e => (e0.bs b o e).1
  have nolim : s.heap.NoLimit := e0.mod.nolimit.keeps fun b o e => (e0.bs b o e).1
  have hk : ∀ y ∈ ps.zip us, (defScope st).names.lookup y.1 = some .local ∨ ((defScope st).names.lookup y.1 = some .cell ∧ ((cellsFrom (s.heap.objs.size + 1) (defScope st).names []).lookup y.1).isSome = true) := by
    rintro ⟨n, v⟩ hy
    have hp := S.par n (List.of_mem_zip hy).1
    exact hp.imp id fun q => ⟨q, PySem.W.cellsFrom_some _ _ _ (.inl q)⟩
  refine codeAny_call_function hr.depth (kin _ _ lk) rfl S.co S.gen rfl (PySem.W.codeRec_of kin hcd) (hb _ _ _ _ ?_)
  refine wpAny_newFunctionEnv_cells S.kind hk fun env he s1 x => ?_
  subst he
  refine ⟨nolim.keeps x.toInCall.keep, codeAny_func ?_⟩
  have ht : PSs (cxOf CX0 P w K mg base N qual (defScope st) f cdv A outer s H E) (defBody st) (WB (fcx P w K mg base N qual st f cdv A outer s H E) (defBody st)) := PSs.nox WB.pss
  have I : Inv (cxOf CX0 P w K mg base N qual (defScope st) f cdv A outer s H E) [] (L2.start N vs) H s1 := inv_start S hr.hd e0 hl r x
  refine wpAny_mono (ht.run [] s1 (L2.start N vs) H _ I (hbody cdv A outer s H vs Q E (hr.deeper _) hgd hsp)) ?_ fun e s' hs => hs
  intro fl s' hs
  have fin : ∀ {τ : St} {H' : Hp} {v : V} {u : Value}, Inv (cxOf CX0 P w K mg base N qual (defScope st) f cdv A outer s H E) [] τ H' s' → RelV v u → Q v H' → CE outer P w H s Q u s' := by
    intro τ H' v u J rv q
    exact ⟨v, H', J.os, J.bare, J.base, J.hok, rv, q⟩
  match fl, hs with
  | .ret u, hs =>
    obtain ⟨v, τ, H', J, rv, q⟩ := hs
    exact fin J rv q
  | .next, hs =>
    obtain ⟨τ, H', J, q⟩ := hs
    exact fin (v := V.non) (u := Value.none) J rfl q
  | .brk, hs =>
    obtain ⟨_, _, _, q⟩ := hs
    exact q.elim
  | .cont, hs =>
    obtain ⟨_, _, _, q⟩ := hs
    exact q.elim
theorem fn_ok {P : Program} {w : World} {K : PySem.W.Frag} {mg : Str → Option Value} {base : Heap} {x qual : Str} {st : Stmt} {f : Addr} {fd : FuncData} {N ps : List Str} {k : Nat} {fs : FS} (F : Fun K x qual st f fd) (S : FnScope N ps (defScope st))
    (hl : ∀ avs R, fs avs R → avs.length = ps.length)
    (hb : ∀ (cdv : Value) (A : Around) (outer : List Env) (s : Shared) (H : Hp) (E : XK) (dr : Option Addr) (avs : List AV) (R : RV → Prop), Room k (A.deeper (PyProof.Rows.envOfC qual (defScope st) s.heap.objs.size f cdv)) → A.guards = some [] → fs avs R →
      DB ⟨fcx P w K mg base N qual st f cdv A outer s H E, H, dr⟩ (avs.map AV.sv ++ List.replicate (N.length - ps.length) .no) (defBody st) (fun _ => R (.dat .none)) R (fun _ => False) (fun _ => False)) :
    FnG P w K mg base (k + 1) f fd ps (spOf K fs) := by
  have hN : ps.length ≤ N.length := by
    have := congrArg List.length S.pre
    rw [List.length_take] at this
    omega
  refine fnG_of F S (fun vs H Q E h => ?_) (fun cdv A outer s H vs Q E hr hgd h => ?_)
  · obtain ⟨dr, avs, R, _, ha, hf, _⟩ := h
    rw [ha.length]
    exact hl _ _ hf
  · obtain ⟨dr, avs, R, hd, ha, hf, hq⟩ := h
    refine hb cdv A outer s H E dr avs R hr hgd hf (L2.start N vs) H _ (rs_start hd ha (hl _ _ hf) hN) ⟨fun ρ σ H' _ r q => ?_, fun v rv H' _ fr rv' q => ?_, fun _ _ _ _ _ z => z.elim, fun _ _ _ _ _ z => z.elim⟩
    · exact hq .non (.dat .none) H' r.fr (show RvOk K H dr H' .non (.dat .none) from Rp.non) q
    · exact hq v rv H' fr rv' q

/-- a def that may be called here -/
structure Cal (X : Cx) (x : Str) (fs : FS) : Prop where
  ex : ∃ (k : Nat) (f : Addr) (fd : FuncData) (ps : List Str), FnG X.prog X.w X.K X.mg X.base k f fd ps (spOf X.K fs) ∧ Room k X.A ∧ X.A.guards = some [] ∧ X.mg x = some (.ref f) ∧ PySem.W.keepIn X.K (.ref f) = true ∧ Binds X.K fd ps []
section
variable {C : DC} {ρ ρ' : Rho} {σ : St} {H H' : Hp} {e a b c : Expr} {es : List Expr} {pos p apos : Pos} {k : EV → Rho → Prop} {kd : PyData → Prop} {kl : List PyData → Rho → Prop}
/-- the arguments of a call -/
inductive AvsOf (ρ : Rho) : List EV → List AV → Prop
  | nil : AvsOf ρ [] []
  | dat {d : PyData} {evs : List EV} {avs : List AV} : AvsOf ρ evs avs → AvsOf ρ (.dat d :: evs) (.dat d :: avs)
  | drw {i : Nat} {evs : List EV} {avs : List AV} : ρ[i]? = some .drw → AvsOf ρ evs avs → AvsOf ρ (.ali i :: evs) (.drw :: avs)
  | scr {i : Nat} {ns : List Int} {evs : List EV} {avs : List AV} : ρ[i]? = some (.scr ns) → AvsOf ρ evs avs → AvsOf ρ (.ali i :: evs) (.scr ns :: avs)
theorem Rs.scr {i : Nat} {ns : List Int} (r : C.Rs ρ σ H) (h : ρ[i]? = some (.scr ns)) : ∃ a, σ[i]? = some (some (.ref a)) ∧ SqS C.X.K H a (ns.map V.int) := by
  obtain ⟨o, ho⟩ := Rs.at r h
  obtain ⟨a, h1, h2⟩ := r.sl i _ h
  rw [ho] at h1
  exact ⟨a, by rw [ho, show o = some (.ref a) from h1], h2⟩
theorem AvsOf.args {evs : List EV} {avs : List AV} (h : AvsOf ρ evs avs) (r : C.Rs ρ σ H) : ∀ {vs : List V}, EvsOk C.X.K H σ vs evs → ArgsOk C.X.K H C.dr vs avs := by
  induction h with
  | nil => intro vs q; cases q; exact .nil
  | dat _ ih =>
    intro vs q
    cases q with
    | cons q1 q2 => exact .dat q1 (ih q2)
  | drw h _ ih =>
    intro vs q
    cases q with
    | cons q1 q2 =>
      obtain ⟨a, h1, h2⟩ := Rs.drw r h
      have e := (show σ[_]? = some (some _) from q1).symm.trans h1
      cases e
      exact .drw h2 (ih q2)
  | scr h _ ih =>
    intro vs q
    cases q with
    | cons q1 q2 =>
      obtain ⟨a, h1, h2⟩ := Rs.scr r h
      have e := (show σ[_]? = some (some _) from q1).symm.trans h1
      cases e
      exact .scr h2 (ih q2)
theorem rs_call (r : C.Rs ρ σ H) (f : Fr H C.dr H') : C.Rs ρ σ H' := by
  refine ⟨⟨fun b o h n => f.ext b o (r.fr.ext b o h n) n, r.fr.kt.trans f.kt, f.drw⟩, r.len, fun i sv h => ?_, r.sep⟩
  have hs := r.sl i sv h
  cases sv with
  | no => exact True.intro
  | dat d =>
    obtain ⟨x, h1, h2⟩ := hs
    exact ⟨x, h1, h2.kt f.kt⟩
  | own ds =>
    obtain ⟨l, h1, h2, h3, vs, h4, h5⟩ := hs
    exact ⟨l, h1, h2, h3, vs, f.ext l _ h4 h3, h5.kt f.kt⟩
  | dic ds =>
    obtain ⟨l, h1, h2, h3, vs, h4, h5⟩ := hs
    exact ⟨l, h1, h2, h3, vs, f.ext l _ h4 h3, h5.kt f.kt⟩
  | drw => exact hs
  | scr ns =>
    obtain ⟨a, h1, h2⟩ := hs
    exact ⟨a, h1, h2.kt f.kt⟩
theorem run_fnG {X : Cx} {kk : Nat} {f : Addr} {fd : FuncData} {ps : List Str} {sp : Sp} {pins : List (Addr × Obj)} {s : Shared} {Q : VK} {us : List Value} {vs : List V} (F : FnG X.prog X.w X.K X.mg X.base kk f fd ps sp) (hr : Room kk X.A) (hgd : X.A.guards = some [])
    (hb : Binds X.K fd ps []) (I : Inv X pins σ H s) (r : Vals vs us) (h : sp vs H Q E0) : wpAny (model X.prog X.w) X.A (call (.ref f) us) (EP X pins σ Q) X.xe s := by
  have hl : (us ++ []).length = ps.length := by rw [List.append_nil, ← r.length]; exact F.len _ _ _ _ h
  have hbb := hb s us I.kIn hl
  rw [List.append_nil] at hbb
  refine wpAny_call (codeAny_mono (F.run X.A X.stack s H ⟨us, []⟩ us vs Q E0 hr hgd I.env0 hbb r h) ?_)
  intro rs s' hq
  match rs, hq with
  | .error e, hq => exact hq.elim
  | .ok (.ret u), hq => exact I.after hq
  | .ok .next, hq => exact hq.elim
  | .ok .brk, hq => exact hq.elim
  | .ok .cont, hq => exact hq.elim
theorem pe_callG {X : Cx} {kk : Nat} {f : Addr} {fd : FuncData} {ps : List Str} {sp : Sp} {x : Str} {t : TA} (F : FnG X.prog X.w X.K X.mg X.base kk f fd ps sp) (hr : Room kk X.A) (hgd : X.A.guards = some []) (hg : Gl X x) (hm : X.mg x = some (.ref f))
    (hk : PySem.W.keepIn X.K (.ref f) = true) (hb : Binds X.K fd ps []) (ha : PA X (e :: es) t) (hdb : (x == ("__debug__" : Str)) = false)
    (he : starEach (e :: es) X.env = (false, eval e X.env) :: starEach es X.env) (hpl : (backTo pos (starEach es X.env)).any (·.1) = false) :
    PE X (.Call (.Name x p) (e :: es) [] pos) (fun σ H Q => t σ H fun vs H1 => sp vs H1 Q E0) := by
  constructor
  intro pins s σ H Q I h
  refine wpAny_Call_Name_kw (ld_glob I hg hm ?_ hdb)
  refine PySem.W.callWith_K (h₀ := X.base) I.ok.mod.kin hk (thn (ha.run pos pins s σ H _ I h) ?_) he hpl
  rintro us s1 ⟨vs, H1, I1, r, q⟩
  exact ⟨I1.kIn, run_fnG F hr hgd hb I1 r q⟩
/-- a call, whatever it gives -/
theorem call_core {x : Str} {fs : FS} {Q : VK} (F : Cal C.X x fs) (hg : Gl C.X x) (r : C.Rs ρ σ H) (h : DA C ρ (e :: es) fun evs ρ1 => ∃ avs R, AvsOf ρ1 evs avs ∧ fs avs R ∧ ∀ v rv H2, KT H H2 → C.Rs ρ1 σ H2 → (∀ p vs, rv = .lst vs → v = .ref p → New C.H0 C.dr ρ1 σ p) → RvOk C.X.K (fun _ => none) none H2 v rv → R rv → Q v H2)
    (hdb : (x == ("__debug__" : Str)) = false := by decide) (he : starEach (e :: es) C.X.env = (false, eval e C.X.env) :: starEach es C.X.env := by rfl) (hpl : (backTo pos (starEach es C.X.env)).any (·.1) = false := by rfl) :
    WE C.X (.Call (.Name x p) (e :: es) [] pos) σ H Q := by
  obtain ⟨kk, f, fd, ps, F, hr, hgd, hm, hk, hb⟩ := F.ex
  refine WE.of (pe_callG F hr hgd hg hm hk hb WA.pa hdb he hpl) ?_
  show WA C.X (e :: es) σ H _
  refine h σ H _ r fun vs evs ρ1 H1 k1 r1 o1 h1 => ?_
  obtain ⟨avs, R, ha, hf, hq⟩ := h1
  refine ⟨C.dr, avs, R, r1.fr.drw, ha.args r1 o1, hf, fun v rv H2 fr ok hR => ?_⟩
  have r2 := rs_call r1 fr
  have hnew : ∀ p, H1 p = none → New C.H0 C.dr ρ1 σ p := fun p np => New.of_none r1 np
  refine hq v rv H2 (k1.trans fr.kt) r2 (fun p vs hrv hv => ?_) ?_ hR
  · subst hrv
    obtain ⟨p', vs', e1, e2, _⟩ := ok
    rw [hv] at e1
    cases e1
    exact hnew p e2
  · cases rv with
    | dat d => exact ok
    | lst ds =>
      obtain ⟨p', vs', e1, e2, _, e3, e4⟩ := ok
      exact ⟨p', vs', e1, rfl, (fun z => nomatch z), e3, e4⟩
theorem de_call {x : Str} {fs : FS} (F : Cal C.X x fs) (hg : Gl C.X x) (h : DA C ρ (e :: es) fun evs ρ1 => ∃ avs, AvsOf ρ1 evs avs ∧ fs avs fun rv => k (.dat rv.data) ρ1)
    (hdb : (x == ("__debug__" : Str)) = false := by decide) (he : starEach (e :: es) C.X.env = (false, eval e C.X.env) :: starEach es C.X.env := by rfl) (hpl : (backTo pos (starEach es C.X.env)).any (·.1) = false := by rfl) :
    DE C ρ (.Call (.Name x p) (e :: es) [] pos) k := fun σ H Q r g => by
  refine (call_core (Q := fun v H' => ∃ ρ1 rv, KT H H' ∧ C.Rs ρ1 σ H' ∧ (∀ p vs, rv = .lst vs → v = .ref p → New C.H0 C.dr ρ1 σ p) ∧ RvOk C.X.K (fun _ => none) none H' v rv ∧ k (.dat rv.data) ρ1) F hg r ?_ hdb he hpl).thn ?_
  · intro σ' H1 Q' r' g'
    refine h σ' H1 Q' r' fun vs evs ρ1 H2 k2 r2 o2 h2 => g' vs evs ρ1 H2 k2 r2 o2 ?_
    obtain ⟨avs, ha, hf⟩ := h2
    exact ⟨avs, _, ha, hf, fun v rv H2 kt r2 n ok hk => ⟨ρ1, rv, kt, r2, n, ok, hk⟩⟩
  · intro pins s v u H' I rel hq
    obtain ⟨ρ1, rv, kt, r1, n, ok, hk⟩ := hq
    cases rv with
    | dat d => exact ⟨v, H', I, rel, g v (.dat d) ρ1 H' kt r1 ok hk⟩
    | lst ds =>
      obtain ⟨p', vs, rfl, _, _, h1, h2⟩ := ok
      obtain ⟨o, I'⟩ := freeze I h1 (by intro xs z; cases z) (by intro o w z; cases z) (by intro ps z; cases z) (by intro a z; cases z)
      refine ⟨_, _, I', rel, g _ (.dat (.list ds)) ρ1 _ (kt.trans (kt_frz h1)) (Rs.frz r1 (n p' ds rfl rfl) h1) ?_ hk⟩
      exact Rp.lst ⟨o, upd_same⟩ (h2.kt (kt_frz h1))
theorem dl_call {x : Str} {fs : FS} (F : Cal C.X x fs) (hg : Gl C.X x) (h : DA C ρ (e :: es) fun evs ρ1 => ∃ avs, AvsOf ρ1 evs avs ∧ fs avs fun rv => ∃ ds, rv = .lst ds ∧ kl ds ρ1)
    (hdb : (x == ("__debug__" : Str)) = false := by decide) (he : starEach (e :: es) C.X.env = (false, eval e C.X.env) :: starEach es C.X.env := by rfl) (hpl : (backTo pos (starEach es C.X.env)).any (·.1) = false := by rfl) :
    DL C ρ (.Call (.Name x p) (e :: es) [] pos) kl := fun σ H Q r g => by
  refine call_core F hg r ?_ hdb he hpl
  intro σ' H1 Q' r' g'
  refine h σ' H1 Q' r' fun vs evs ρ1 H2 k2 r2 o2 h2 => g' vs evs ρ1 H2 k2 r2 o2 ?_
  obtain ⟨avs, ha, hf⟩ := h2
  refine ⟨avs, _, ha, hf, fun v rv H2 kt r2 n ok hk => ?_⟩
  obtain ⟨ds, rfl, hk⟩ := hk
  obtain ⟨p', vs, rfl, _, _, h1, h2⟩ := ok
  exact g p' vs ds ρ1 H2 kt r2 (n p' ds rfl rfl) h1 h2 hk

/-! ### statements -/
variable {nx : Rho → Prop} {rt : RV → Prop} {bk ct : Rho → Prop} {st : Stmt} {sts : List Stmt} {kt : Bool → Rho → Prop}
theorem db_nil (q : nx ρ) : DB C ρ [] nx rt bk ct := fun σ H E r ac => WB.of pss_nil (ac.nx ρ σ H (KT.refl H) r q)
theorem db_cons (h : DS C ρ st (fun ρ1 => DB C ρ1 sts nx rt bk ct) rt bk ct) : DB C ρ (st :: sts) nx rt bk ct := fun σ H E r ac => by
  refine WB.of (pss_cons WS.ps WB.pss) ?_
  refine h σ H _ r ⟨fun ρ1 σ1 H1 k1 r1 q => ?_, ac.rt, ac.bk, ac.ct⟩
  exact q σ1 H1 E r1 (ac.kt k1)
theorem ds_ret (h : DE C ρ e fun ev ρ1 => ∃ d, ev = .dat d ∧ rt (.dat d)) : DS C ρ (.Return (some e) pos) nx rt bk ct := fun σ H E r ac => by
  refine WS.of (ps_ret WE.pe) ?_
  refine h σ H _ r fun v ev ρ1 H1 k1 r1 o1 h1 => ?_
  obtain ⟨d, rfl, hk⟩ := h1
  exact ac.rt v (.dat d) H1 k1 r1.fr o1 hk
theorem ds_retL (h : DL C ρ e fun ds ρ1 => rt (.lst ds)) : DS C ρ (.Return (some e) pos) nx rt bk ct := fun σ H E r ac => by
  refine WS.of (ps_ret WE.pe) ?_
  refine h σ H _ r fun p vs ds ρ1 H1 k1 r1 n hp hl hk => ?_
  exact ac.rt _ (.lst ds) H1 k1 r1.fr ⟨p, vs, rfl, n.e, n.d, hp, hl⟩ hk
theorem ds_retO (h : DE C ρ e fun ev ρ1 => ∃ i ds, ev = .ali i ∧ ρ1[i]? = some (.own ds) ∧ rt (.lst ds)) : DS C ρ (.Return (some e) pos) nx rt bk ct := fun σ H E r ac => by
  refine WS.of (ps_ret WE.pe) ?_
  refine h σ H _ r fun v ev ρ1 H1 k1 r1 o1 h1 => ?_
  obtain ⟨i, ds, rfl, hi, hk⟩ := h1
  obtain ⟨l, vs, e1, e2, e3, e4, e5⟩ := Rs.own r1 hi
  have e := (show σ[_]? = some (some _) from o1).symm.trans e1
  cases e
  exact ac.rt _ (.lst ds) H1 k1 r1.fr ⟨l, vs, rfl, e2, e3, e4, e5⟩ hk
theorem ds_expr (h : DE C ρ e fun _ ρ1 => nx ρ1) (hs : swapsWith e none pos.line C.X.env = pure false := by rfl) : DS C ρ (.Expr e pos) nx rt bk ct := fun σ H E r ac => by
  refine WS.of (ps_expr WE.pe hs) ?_
  exact h σ H _ r fun v ev ρ1 H1 k1 r1 o1 h1 => ac.nx ρ1 σ H1 k1 r1 h1
theorem ds_if {sa sb : List Stmt} (h : DT C ρ c fun t ρ1 => (t = true → DB C ρ1 sa nx rt bk ct) ∧ (t = false → DB C ρ1 sb nx rt bk ct)) : DS C ρ (.If c sa sb pos) nx rt bk ct := fun σ H E r ac => by
  refine WS.of (ps_if WT.pt WB.pss WB.pss) ?_
  refine h σ H _ r fun t ρ1 H1 k1 r1 h1 => ?_
  cases t with
  | true => exact iteT (h1.1 rfl σ H1 E r1 (ac.kt k1))
  | false => exact iteF (h1.2 rfl σ H1 E r1 (ac.kt k1))
theorem ds_pass (q : nx ρ) : DS C ρ (.Pass pos) nx rt bk ct := fun σ H E r ac => WS.of ps_pass (ac.nx ρ σ H (KT.refl H) r q)

/-- a slot gets data -/
theorem Rs.setD {i : Nat} {v : V} {d : PyData} (r : C.Rs ρ σ H) (q : C.Rp H v d) : C.Rs (ρ.set i (.dat d)) (σ.set i (some v)) H := by
  by_cases hi : i < ρ.length
  case neg =>
    rw [List.set_eq_of_length_le (by omega), List.set_eq_of_length_le (by rw [r.len]; omega)]
    exact r
  refine ⟨r.fr, by rw [List.length_set, List.length_set]; exact r.len, fun j sv h => ?_, fun j1 j2 s1 s2 l h1 h2 o1 o2 e1 e2 => ?_⟩
  · by_cases hj : i = j
    · subst hj
      rw [List.getElem?_set_self hi] at h
      cases h
      rw [List.getElem?_set_self (by rw [r.len]; exact hi)]
      exact ⟨v, rfl, q⟩
    · rw [List.getElem?_set_ne hj] at h
      rw [List.getElem?_set_ne hj]
      exact r.sl j sv h
  · have n1 : i ≠ j1 := fun z => by
      subst z
      rw [List.getElem?_set_self hi] at h1
      cases h1
      cases o1
    have n2 : i ≠ j2 := fun z => by
      subst z
      rw [List.getElem?_set_self hi] at h2
      cases h2
      cases o2
    rw [List.getElem?_set_ne n1] at h1 e1
    rw [List.getElem?_set_ne n2] at h2 e2
    exact r.sep j1 j2 s1 s2 l h1 h2 o1 o2 e1 e2
theorem Rs.setN {i : Nat} {v : V} (r : C.Rs ρ σ H) (hi : i < ρ.length) : C.Rs (ρ.set i .no) (σ.set i (some v)) H := by
  refine ⟨r.fr, by rw [List.length_set, List.length_set]; exact r.len, fun j sv h => ?_, fun j1 j2 s1 s2 l h1 h2 o1 o2 e1 e2 => ?_⟩
  · by_cases hj : i = j
    · subst hj
      rw [List.getElem?_set_self hi] at h
      cases h
      exact True.intro
    · rw [List.getElem?_set_ne hj] at h
      rw [List.getElem?_set_ne hj]
      exact r.sl j sv h
  · have n1 : i ≠ j1 := fun z => by
      subst z
      rw [List.getElem?_set_self hi] at h1
      cases h1
      cases o1
    have n2 : i ≠ j2 := fun z => by
      subst z
      rw [List.getElem?_set_self hi] at h2
      cases h2
      cases o2
    rw [List.getElem?_set_ne n1] at h1 e1
    rw [List.getElem?_set_ne n2] at h2 e2
    exact r.sep j1 j2 s1 s2 l h1 h2 o1 o2 e1 e2
/-- a slot gets a new list of its own -/
theorem Rs.setO {i : Nat} {p : Addr} {vs : List V} {ds : List PyData} (r : C.Rs ρ σ H) (n : New C.H0 C.dr ρ σ p) (hp : H p = some (.lst vs)) (q : C.RpL H vs ds) : C.Rs (ρ.set i (.own ds)) (σ.set i (some (.ref p))) H := by
  by_cases hi : i < ρ.length
  case neg =>
    rw [List.set_eq_of_length_le (by omega), List.set_eq_of_length_le (by rw [r.len]; omega)]
    exact r
  have hiσ : i < σ.length := by rw [r.len]; exact hi
  refine ⟨r.fr, by rw [List.length_set, List.length_set]; exact r.len, fun j sv h => ?_, fun j1 j2 s1 s2 l h1 h2 o1 o2 e1 e2 => ?_⟩
  · by_cases hj : i = j
    · subst hj
      rw [List.getElem?_set_self hi] at h
      cases h
      rw [List.getElem?_set_self hiσ]
      exact ⟨p, rfl, n.e, n.d, vs, hp, q⟩
    · rw [List.getElem?_set_ne hj] at h
      rw [List.getElem?_set_ne hj]
      exact r.sl j sv h
  · by_cases n1 : i = j1
    · by_cases n2 : i = j2
      · rw [← n1, n2]
      · exfalso
        subst n1
        rw [List.getElem?_set_self hiσ] at e1
        cases e1
        rw [List.getElem?_set_ne n2] at h2 e2
        exact n.s j2 s2 h2 o2 e2
    · by_cases n2 : i = j2
      · exfalso
        subst n2
        rw [List.getElem?_set_self hiσ] at e2
        cases e2
        rw [List.getElem?_set_ne n1] at h1 e1
        exact n.s j1 s1 h1 o1 e1
      · rw [List.getElem?_set_ne n1] at h1 e1
        rw [List.getElem?_set_ne n2] at h2 e2
        exact r.sep j1 j2 s1 s2 l h1 h2 o1 o2 e1 e2
theorem ds_set {i : Nat} {x : Str} {pos' : Pos} (h : DE C ρ e fun ev ρ1 => ∃ d, ev = .dat d ∧ nx (ρ1.set i (.dat d))) (hN : C.X.N.Nodup) (hi : C.X.N[i]? = some x) (hx : Loc C.X.env.scope x)
    (hs : swapsWith e (some (.Name x pos')) pos.line C.X.env = pure false := by rfl) (hf : C.X.fn x = true ∨ C.X.env.scope.names.lookup x = some .local := by first | exact .inl rfl | exact .inr rfl | assumption) : DS C ρ (.Assign [.Name x pos'] e pos) nx rt bk ct := fun σ H E r ac => by
  refine WS.of (ps_set hN hi hx WE.pe hs hf) ?_
  refine h σ H _ r fun v ev ρ1 H1 k1 r1 o1 h1 => ?_
  obtain ⟨d, rfl, hk⟩ := h1
  exact ac.nx _ _ H1 k1 (Rs.setD r1 o1) hk
theorem ds_setL {i : Nat} {x : Str} {pos' : Pos} (h : DL C ρ e fun ds ρ1 => nx (ρ1.set i (.own ds))) (hN : C.X.N.Nodup) (hi : C.X.N[i]? = some x) (hx : Loc C.X.env.scope x)
    (hs : swapsWith e (some (.Name x pos')) pos.line C.X.env = pure false := by rfl) (hf : C.X.fn x = true ∨ C.X.env.scope.names.lookup x = some .local := by first | exact .inl rfl | exact .inr rfl | assumption) : DS C ρ (.Assign [.Name x pos'] e pos) nx rt bk ct := fun σ H E r ac => by
  refine WS.of (ps_set hN hi hx WE.pe hs hf) ?_
  refine h σ H _ r fun p vs ds ρ1 H1 k1 r1 n hp hl h1 => ?_
  exact ac.nx _ _ H1 k1 (Rs.setO r1 n hp hl) h1
end
end DW
namespace DW
open PySem L2
section
variable {C : DC} {ρ ρ' : Rho} {σ : St} {H H' : Hp} {e a b c : Expr} {es : List Expr} {pos p apos cpos : Pos} {k : EV → Rho → Prop} {kd : PyData → Prop} {kl : List PyData → Rho → Prop} {nx : Rho → Prop} {rt : RV → Prop} {bk ct : Rho → Prop} {st : Stmt} {sts : List Stmt} {kt : Bool → Rho → Prop}

/-! ### a list of its own is changed -/
theorem Rs.upd {i : Nat} {l : Addr} {vs vs' : List V} {ds ds' : List PyData} (r : C.Rs ρ σ H) (h : ρ[i]? = some (.own ds)) (hl : σ[i]? = some (some (.ref l))) (hH : H l = some (.lst vs)) (q : C.RpL H vs' ds') : C.Rs (ρ.set i (.own ds')) σ (L2.upd H l (.lst vs')) := by
  have kt : KT H (L2.upd H l (.lst vs')) := KT.lst hH
  have hi : i < ρ.length := (List.getElem?_eq_some_iff.mp h).1
  obtain ⟨l', ws, e1, e2, e3, e4, e5⟩ := Rs.own r h
  rw [hl] at e1
  cases e1
  refine ⟨⟨fun b o hb hd => ?_, r.fr.kt.trans kt, fun a ha => ?_⟩, by rw [List.length_set]; exact r.len, fun j sv hj => ?_, fun j1 j2 s1 s2 l2 h1 h2 o1 o2 q1 q2 => ?_⟩
  · rw [upd_ne (fun z => by rw [z, e2] at hb; cases hb)]
    exact r.fr.ext b o hb hd
  · obtain ⟨g, m, c, q, t⟩ := r.fr.drw a ha
    exact ⟨g, m, c, by
      rw [upd_ne (fun z => e3 (by rw [ha, z]))]
      exact q, t⟩
  · by_cases hij : i = j
    · subst hij
      rw [List.getElem?_set_self hi] at hj
      cases hj
      rw [hl]
      exact ⟨l, rfl, e2, e3, vs', upd_same, q.kt kt⟩
    · rw [List.getElem?_set_ne hij] at hj
      have hs := r.sl j sv hj
      have hne : ∀ l2, sv.isOwn = true → (σ[j]?.join) = some (.ref l2) → l2 ≠ l := fun l2 ho e z => by
        subst z
        obtain ⟨w, hw⟩ := Rs.at r hj
        rw [hw] at e
        exact hij (r.sep i j _ sv l2 h hj rfl ho hl (by rw [hw, show w = some (.ref l2) from e]))
      cases sv with
      | no => exact True.intro
      | dat d =>
        obtain ⟨x, h1, h2⟩ := hs
        exact ⟨x, h1, h2.kt kt⟩
      | own ds =>
        obtain ⟨l2, h1, h2, h3, us, h4, h5⟩ := hs
        exact ⟨l2, h1, h2, h3, us, by rw [upd_ne (hne l2 rfl h1)]; exact h4, h5.kt kt⟩
      | dic ds =>
        obtain ⟨l2, h1, h2, h3, us, h4, h5⟩ := hs
        exact ⟨l2, h1, h2, h3, us, by rw [upd_ne (hne l2 rfl h1)]; exact h4, h5.kt kt⟩
      | drw => exact hs
      | scr ns =>
        obtain ⟨a, h1, h2⟩ := hs
        exact ⟨a, h1, h2.kt kt⟩
  · have c1 : ∃ s1', ρ[j1]? = some s1' ∧ s1'.isOwn = true := by
      by_cases hz : i = j1
      · exact ⟨_, by rw [← hz]; exact h, rfl⟩
      · rw [List.getElem?_set_ne hz] at h1
        exact ⟨s1, h1, o1⟩
    have c2 : ∃ s2', ρ[j2]? = some s2' ∧ s2'.isOwn = true := by
      by_cases hz : i = j2
      · exact ⟨_, by rw [← hz]; exact h, rfl⟩
      · rw [List.getElem?_set_ne hz] at h2
        exact ⟨s2, h2, o2⟩
    obtain ⟨s1', g1, g2⟩ := c1
    obtain ⟨s2', g3, g4⟩ := c2
    exact r.sep j1 j2 s1' s2' l2 g1 g3 g2 g4 q1 q2


theorem own_var {i : Nat} {x : Str} {ds : List PyData} {Q : VK} (r : C.Rs ρ σ H) (h0 : ρ[i]? = some (.own ds)) (q : ∀ l vs, σ[i]? = some (some (.ref l)) → H l = some (.lst vs) → C.RpL H vs ds → Q (.ref l) H) : tVar i σ H Q := by
  obtain ⟨l, vs, e1, _, _, e4, e5⟩ := Rs.own r h0
  exact ⟨.ref l, e1, q l vs e1 e4 e5⟩
/-- xs.append(e) -/
theorem de_append {i : Nat} {x : Str} {px : Pos} {ds0 : List PyData} (h : DE C ρ e fun ev ρ1 => ∃ d ds, ev = .dat d ∧ ρ1[i]? = some (.own ds) ∧ ds.length < sizeLine ∧ k (.dat .none) (ρ1.set i (.own (ds ++ [d]))))
    (h0 : ρ[i]? = some (.own ds0)) (hN : C.X.N[i]? = some x) (hv : Vis C.X.env.scope x) (hd : (x == ("__debug__" : Str)) = false := by decide) (hcd : (x == ("__classdict__" : Str)) = false := by decide)
    (hbase : attributeBase (.Name x px) "append" C.X.env (eval (.Name x px) C.X.env) = eval (.Name x px) C.X.env := by rfl)
    (hfew : ((backTo cpos (starEach [e] C.X.env)).all (fun x => !x.1) && (backToKw cpos (keywordEach [] C.X.env)).all (fun x => x.1.isSome)
      && decide (([e] : List Expr).length + ([] : List Keyword).length + (if ([] : List Keyword).isEmpty then 0 else 1) < 30)) = true := by rfl)
    (hline : (apos.endLine == cpos.line) = true := by rfl) (hs : starEach [e] C.X.env = (false, eval e C.X.env) :: starEach [] C.X.env := by rfl) (hplain : (backTo cpos (starEach [] C.X.env)).any (·.1) = false := by rfl) :
    DE C ρ (.Call (.Attribute (.Name x px) "append" apos) [e] [] cpos) k := fun σ H Q r g => by
  refine WE.of (pe_bm PySem.F.plainAttrs_list PySem.F.slot_list_append PySem.F.type_list_append mt_append (pe_var hN hv hd hcd) (pa_cons WE.pe pa_nil hs) hbase hfew hline hs hplain) ?_
  refine own_var (x := x) r h0 fun l vs e1 e4 e5 => ⟨.inl ⟨rfl, _, SqL.of e4⟩, ?_⟩
  refine h σ H _ r fun v ev ρ1 H1 k1 r1 o1 h1 => ?_
  obtain ⟨d, ds, rfl, hi, hz, hk⟩ := h1
  obtain ⟨l', ws, f1, _, _, f4, f5⟩ := Rs.own r1 hi
  rw [e1] at f1
  cases f1
  refine ⟨l, ws, v, rfl, rfl, f4, by rw [f5.length]; exact hz, ?_⟩
  exact g _ (.dat .none) _ _ (k1.trans (KT.lst f4)) (Rs.upd r1 hi e1 f4 (f5.snoc o1)) Rp.non hk
/-- xs.pop() -/
theorem de_pop {i : Nat} {x : Str} {px : Pos} {ds : List PyData} {d : PyData} (h0 : ρ[i]? = some (.own (ds ++ [d]))) (q : k (.dat d) (ρ.set i (.own ds))) (hN : C.X.N[i]? = some x) (hv : Vis C.X.env.scope x) (hd : (x == ("__debug__" : Str)) = false := by decide) (hcd : (x == ("__classdict__" : Str)) = false := by decide)
    (hbase : attributeBase (.Name x px) "pop" C.X.env (eval (.Name x px) C.X.env) = eval (.Name x px) C.X.env := by rfl) (hline : (apos.endLine == cpos.line) = true := by rfl) :
    DE C ρ (.Call (.Attribute (.Name x px) "pop" apos) [] [] cpos) k := fun σ H Q r g => by
  refine WE.of (pe_bm0 PySem.F.plainAttrs_list PySem.F.slot_list_pop PySem.F.type_list_pop mt_pop (pe_var hN hv hd hcd) hbase hline) ?_
  refine own_var (x := x) r h0 fun l vs e1 e4 e5 => ⟨.inl ⟨rfl, _, SqL.of e4⟩, ?_⟩
  have hl := e5.length
  rw [List.length_append, List.length_singleton] at hl
  obtain ⟨v, hv1, hv2⟩ := e5.getD (i := ds.length) (d := d) (by simp)
  refine ⟨l, vs, v, rfl, rfl, e4, by rw [hl]; exact hv1, ?_⟩
  have hdl : C.RpL H vs.dropLast ds := by
    have := e5.dropLast
    rw [List.dropLast_concat] at this
    exact this
  exact g _ (.dat d) _ _ (KT.lst e4) (Rs.upd r h0 e1 e4 hdl) (hv2.kt (KT.lst e4)) q
/-! xs.extend(ys), ys a list or a tuple that is read -/
open AutoSeq1 in
theorem extend_any (l : Addr) (items : Array Value) (n : Nat) (b : Addr) (items2 : Array Value) (n2 : Nat) (dd : Option Addr) (sl : Array (Option Value)) (T : String) (hT : T = "list" ∨ T = "tuple") (hs0 : ¬(!items.isEmpty && Builtin.List.listTooLong (items.size + items2.size)) = true) (hs1 : items.size ≤ sizeLine) (hs2 : items.size + items2.size ≤ sizeLine + 1) :
    Meets (Builtin.«list.extend» ⟨[.ref l, .ref b], []⟩) (fun _ R s => s.heap.get? l = some { cls := .type "list", dict := none, data := .seq items n, slots := #[] } ∧ s.heap.get? b = some { cls := .type T, dict := dd, data := .seq items2 n2, slots := sl } ∧ R (.ok (.ret Value.none)) { s with heap := s.heap.update l (Obj.mapSeq (· ++ items2)) }) := by
  rcases hT with rfl | rfl
  · exact .of_wp fun prog w A R s h => by
      obtain ⟨hp, g, d, tk, os⟩ := s; obtain ⟨hl, hb, h⟩ := h; have f1 := idx_int; have f2 := sub_tuple_tuple; have f3 := sub_list_list; have f4 := sub_tuple_list; have f5 := sub_list_tuple
      have hz' : (items ++ items2).size ≤ sizeLine + 1 := by rw [Array.size_append]; exact hs2
      wp_walk using (wpAny_updateSeq hl rfl (hz := hs1) (_hz' := hz')), wpAny_loadPart' hl, wpAny_loadPart' hb; exact ⟨_, rfl, h⟩
  · exact .of_wp fun prog w A R s h => by
      obtain ⟨hp, g, d, tk, os⟩ := s; obtain ⟨hl, hb, h⟩ := h; have f1 := idx_int; have f2 := sub_tuple_tuple; have f3 := sub_list_list; have f4 := sub_tuple_list; have f5 := sub_list_tuple
      have hz' : (items ++ items2).size ≤ sizeLine + 1 := by rw [Array.size_append]; exact hs2
      wp_walk using (wpAny_updateSeq hl rfl (hz := hs1) (_hz' := hz')), wpAny_loadPart' hl, wpAny_loadPart' hb; exact ⟨_, rfl, h⟩
def rExtendA (K : PySem.W.Frag) : V → List V → Hp → VK → Prop := fun x vs H Q => ∃ l b xs zs, x = .ref l ∧ vs = [.ref b] ∧ H l = some (.lst xs) ∧ (SqL K H b zs ∨ SqT K H b zs) ∧ xs.length + zs.length ≤ sizeLine ∧ Q .non (L2.upd H l (.lst (xs ++ zs)))
theorem mt_extendA {X : Cx} : MtM X "list.extend" (rExtendA X.K) := by
  intro pins s σ H x vs v us Q I rx rv h
  obtain ⟨l, b, xs, zs, rfl, rfl, hH, hB, hz, q⟩ := h
  cases rx
  obtain ⟨u, rfl, ru⟩ := rv.one
  cases ru
  obtain ⟨z, its, n, r, hl, e⟩ := I.lstM hH
  have key : ∀ (T : String) (hT : T = "list" ∨ T = "tuple") (its2 : List Value) (o : Obj) (n2 : Nat), Vals zs its2 → s.heap.get? b = some o → o.cls = .type T → o.data = .seq its2.toArray n2 →
      wpAny (model X.prog X.w) X.A (call (.builtin "list.extend") [.ref l, .ref b]) (EP X pins σ Q) X.xe s := fun T hT its2 o n2 r2 ho hc hd => by
    have hl2 := r2.length
    obtain ⟨cls, dd, data, sl⟩ := o
    simp only at hc hd
    subst hc hd
    have hsz : its.toArray.size + its2.toArray.size ≤ sizeLine := by rw [List.size_toArray, List.size_toArray]; omega
    have hlong : ¬ (!its.toArray.isEmpty && Builtin.List.listTooLong (its.toArray.size + its2.toArray.size)) = true := by
      rw [notLongL hsz, Bool.and_false]
      exact Bool.false_ne_true
    refine call_meets F.slot_list_extend ⟨_, e, rfl⟩ F.entry_list_extend (F.args_list_extend_2 _ _)
      (extend_any l its.toArray n b its2.toArray n2 dd sl T hT hlong (by rw [List.size_toArray]; omega) (by omega)) ⟨e, ho, ?_⟩
    refine ⟨.non, _, I.lset (its' := its ++ its2) hH e (by simp) (r.append r2) ?_, rfl, q⟩
    rw [List.length_append]
    omega
  rcases hB with hB | hB
  · obtain ⟨its2, r2, ⟨o, n2, ho, hc, _, hd⟩, _⟩ := I.list hB
    exact key "list" (.inl rfl) its2 o n2 r2 ho hc hd
  · obtain ⟨its2, r2, ⟨o, ho, hc, n2, hd⟩, _⟩ := I.tuple hB
    exact key "tuple" (.inr rfl) its2 o n2 r2 ho hc hd
theorem de_extend {i : Nat} {x : Str} {px : Pos} {ds0 : List PyData} (h : DE C ρ e fun ev ρ1 => ∃ zs ds, (ev = .dat (.list zs) ∨ ev = .dat (.tuple zs)) ∧ ρ1[i]? = some (.own ds) ∧ ds.length + zs.length ≤ sizeLine ∧ k (.dat .none) (ρ1.set i (.own (ds ++ zs))))
    (h0 : ρ[i]? = some (.own ds0)) (hN : C.X.N[i]? = some x) (hv : Vis C.X.env.scope x) (hd : (x == ("__debug__" : Str)) = false := by decide) (hcd : (x == ("__classdict__" : Str)) = false := by decide)
    (hbase : attributeBase (.Name x px) "extend" C.X.env (eval (.Name x px) C.X.env) = eval (.Name x px) C.X.env := by rfl)
    (hfew : ((backTo cpos (starEach [e] C.X.env)).all (fun x => !x.1) && (backToKw cpos (keywordEach [] C.X.env)).all (fun x => x.1.isSome)
      && decide (([e] : List Expr).length + ([] : List Keyword).length + (if ([] : List Keyword).isEmpty then 0 else 1) < 30)) = true := by rfl)
    (hline : (apos.endLine == cpos.line) = true := by rfl) (hs : starEach [e] C.X.env = (false, eval e C.X.env) :: starEach [] C.X.env := by rfl) (hplain : (backTo cpos (starEach [] C.X.env)).any (·.1) = false := by rfl) :
    DE C ρ (.Call (.Attribute (.Name x px) "extend" apos) [e] [] cpos) k := fun σ H Q r g => by
  refine WE.of (pe_bm PySem.F.plainAttrs_list PySem.F.slot_list_extend PySem.F.type_list_extend mt_extendA (pe_var hN hv hd hcd) (pa_cons WE.pe pa_nil hs) hbase hfew hline hs hplain) ?_
  refine own_var (x := x) r h0 fun l vs e1 e4 e5 => ⟨.inl ⟨rfl, _, SqL.of e4⟩, ?_⟩
  refine h σ H _ r fun v ev ρ1 H1 k1 r1 o1 h1 => ?_
  obtain ⟨zs, ds, hev, hi, hz, hk⟩ := h1
  obtain ⟨l', ws, f1, _, _, f4, f5⟩ := Rs.own r1 hi
  rw [e1] at f1
  cases f1
  obtain ⟨b, us, rfl, hsq, hus⟩ : ∃ b us, v = .ref b ∧ (SqL C.X.K H1 b us ∨ SqT C.X.K H1 b us) ∧ C.RpL H1 us zs := by
    rcases hev with rfl | rfl
    · obtain ⟨b, us, rfl, h1, h2⟩ := (Mp.rp o1).lst
      exact ⟨b, us, rfl, .inl h1, h2⟩
    · obtain ⟨b, us, rfl, h1, h2⟩ := (Mp.rp o1).tup
      exact ⟨b, us, rfl, .inr h1, h2⟩
  refine ⟨l, b, ws, us, rfl, rfl, f4, hsq, by rw [f5.length, hus.length]; exact hz, ?_⟩
  exact g _ (.dat .none) _ _ (k1.trans (KT.lst f4)) (Rs.upd r1 hi e1 f4 (f5.append hus)) Rp.non hk

/-! ### list + list, tuple + tuple, text + text -/
theorem exact_list {X : Cx} {pins : List (Addr × Obj)} {s : Shared} {l : Addr} {xs : List V} (I : Inv X pins σ H s) (h : Rd H l (.lst xs)) : xs.length ≤ sizeLine ∧ ∃ (its : List Value) (n : Nat), Vals xs its ∧ s.heap.get? l = some { cls := .type "list", data := .seq its.toArray n } := by
  obtain ⟨z, its, n, r, e⟩ := h.ok I.hok
  exact ⟨z, its, n, r, e⟩
def rCatR : R2 := fun x y H Q => ∃ l b xs zs, x = .ref l ∧ y = .ref b ∧ Rd H l (.lst xs) ∧ Rd H b (.lst zs) ∧ xs.length + zs.length ≤ sizeLine ∧ ∀ p, H p = none → Q (.ref p) (L2.upd H p (.lst (xs ++ zs)))
theorem op_catR {X : Cx} : OpR X (binaryOp .Add) rCatR := by
  intro pins s σ H x y v u Q I rx ry h
  obtain ⟨l, b, xs, zs, rfl, rfl, hH, hB, hz, q⟩ := h
  cases rx
  cases ry
  obtain ⟨z, its, n, r, e⟩ := exact_list I hH
  obtain ⟨z2, its2, n2, r2, e2⟩ := exact_list I hB
  have hl := r.length
  have hl2 := r2.length
  refine PySem.P.add_list e e2 ?_ (by rw [List.size_toArray, List.size_toArray]; omega)
  have ea : its.toArray ++ its2.toArray = (its ++ its2).toArray := by simp
  rw [ea]
  exact ⟨.ref _, _, I.lnew (t' := s.toks) (r.append r2) (by rw [List.length_append]; omega), rfl, q _ I.fresh⟩
/-- a new list from an operation -/
theorem dl_op {op : Operator} (h : DE C ρ a fun x ρ1 => DE C ρ1 b fun y ρ2 => ∃ dx dy, DatOf ρ2 x dx ∧ DatOf ρ2 y dy ∧ DOpL C.X (binaryOp op) dx dy fun ds => kl ds ρ2) : DL C ρ (.BinOp a op b pos) kl := fun σ H Q r g => by
  have hO : OpR C.X (binaryOp op) (fun x y H Q => ∀ pins s σ (v u : Value), Inv C.X pins σ H s → RelV x v → RelV y u → wpAny (model C.X.prog C.X.w) C.X.A (binaryOp op v u) (EP C.X pins σ Q) C.X.xe s) :=
    fun pins s σ H x y v u Q I rx ry z => z pins s σ v u I rx ry
  refine WE.of (pe_op hO WE.pe WE.pe) ?_
  refine h σ H _ r fun v1 x ρ1 H1 k1 r1 o1 h1 => ?_
  refine h1 σ H1 _ r1 fun v2 y ρ2 H2 k2 r2 o2 h2 => ?_
  obtain ⟨dx, dy, hx, hy, hop⟩ := h2
  intro pins s σ' u w I rx ry
  refine hop pins s σ' H2 v1 v2 u w Q I rx ry (hx.mp r2 (o1.kt k2)) (hy.mp r2 o2) fun p vs ds H' np ex hp rp hk => ?_
  exact g p vs ds ρ2 H' ((k1.trans k2).trans ex.kt) (r2.ex ex) (New.of_none r2 np) hp rp hk
theorem dol_cat {xs ys : List PyData} {kd : List PyData → Prop} (q : kd (xs ++ ys)) (hz : xs.length + ys.length ≤ sizeLine) : DOpL C.X (binaryOp .Add) (.list xs) (.list ys) kd := fun pins s σ H vx vy u w Q I rx ry mx my g => by
  obtain ⟨l, vs, rfl, h1, h2⟩ := mx.rd
  obtain ⟨l', vs', rfl, h1', h2'⟩ := my.rd
  refine op_catR pins s σ H _ _ u w Q I rx ry ⟨l, l', vs, vs', rfl, rfl, h1, h1', by rw [h2.length, h2'.length]; exact hz, fun p np => ?_⟩
  have ex : Ex H (L2.upd H p (.lst (vs ++ vs'))) := Ex.new np
  exact g p _ _ _ np ex upd_same ((h2.append h2').kt ex.kt) q
theorem do_catT {xs ys : List PyData} (q : kd (.tuple (xs ++ ys))) (hz : xs.length + ys.length ≤ sizeLine) : DOp C.X (binaryOp .Add) (.tuple xs) (.tuple ys) kd := fun pins s σ H vx vy u w Q I rx ry mx my g => by
  obtain ⟨l, vs, rfl, h1, h2⟩ := mx.tup
  obtain ⟨l', vs', rfl, h1', h2'⟩ := my.tup
  by_cases hx : vs = []
  · subst hx
    cases h2
    cases rx
    cases ry
    obtain ⟨its, rv, ht, _⟩ := I.tuple h1
    obtain ⟨its', rv', ht', _⟩ := I.tuple h1'
    cases rv
    exact cat_tup0 ht ht' ⟨.ref l', H, I, rfl, g _ _ H (Ex.refl H) (Rp.tup h1' h2') q⟩
  · refine op_catT pins s σ H _ _ u w Q I rx ry ⟨l, l', vs, vs', rfl, rfl, h1, h1', hx, by rw [h2.length, h2'.length]; exact hz, fun hy => ?_, fun hy p np => ?_⟩
    · subst hy
      cases h2'
      rw [List.append_nil] at q
      exact g _ _ H (Ex.refl H) (Rp.tup h1 h2) q
    · have ex : Ex H (L2.upd H p (.tup (vs ++ vs'))) := Ex.new np
      exact g _ _ _ ex (Rp.tup (SqT.of upd_same) ((h2.append h2').kt ex.kt)) q
theorem do_catS {x y : Str} (q : kd (.str (x ++ y))) (hz : x.length + y.length ≤ sizeLine) : DOp C.X (binaryOp .Add) (.str x) (.str y) kd := DOp.of op_add_str fun H vx vy Q mx my z => by
  cases mx.str
  cases my.str
  exact ⟨x, y, rfl, rfl, hz, z _ _ H (Ex.refl H) (.str _) q⟩
end
end DW
namespace DW
open PySem L2
section
variable {C : DC} {ρ ρ' : Rho} {σ : St} {H H' : Hp} {e a b c iter : Expr} {es : List Expr} {pos p apos cpos : Pos} {k : EV → Rho → Prop} {kd : PyData → Prop} {kl : List PyData → Rho → Prop} {nx : Rho → Prop} {rt : RV → Prop} {bk ct : Rho → Prop} {st : Stmt} {sts body : List Stmt} {kt : Bool → Rho → Prop} {tg : Expr}

/-! ### while -/
theorem ds_while (W : Nat → Rho → Prop) (m0 : Nat) (h0 : W m0 ρ) (hs : ∀ m ρ, W m ρ → DT C ρ c fun t ρ1 => (t = true → DB C ρ1 body (fun ρ2 => ∃ m', m' < m ∧ W m' ρ2) rt nx (fun ρ2 => ∃ m', m' < m ∧ W m' ρ2)) ∧ (t = false → nx ρ1))
    (hp : PassesOwn (model C.X.prog C.X.w) C.X.A C.X.env C.X.xe := by exact PassesOwn.never) : DS C ρ (.While c body [] pos) nx rt bk ct := fun σ H E r ac => by
  refine WS.of (ps_while hp WT.pt WB.pss) ?_
  refine ⟨fun m σ' H' => ∃ ρ', W m ρ' ∧ C.Rs ρ' σ' H' ∧ KT H H', ⟨m0, ρ, h0, r, KT.refl H⟩, fun m σ1 H1 ⟨ρ1, w1, r1, k1⟩ => ?_⟩
  refine hs m ρ1 w1 σ1 H1 _ r1 fun t ρ2 H2 k2 r2 h2 => ?_
  cases t with
  | false => exact iteF (ac.nx ρ2 σ1 H2 (k1.trans k2) r2 (h2.2 rfl))
  | true =>
    refine iteT ⟨fun σ3 H3 => ∃ m', m' < m ∧ ∃ ρ3, W m' ρ3 ∧ C.Rs ρ3 σ3 H3 ∧ KT H H3, fun _ _ z => z, ?_⟩
    have k12 := k1.trans k2
    exact h2.1 rfl σ1 H2 _ r2 ⟨fun ρ3 σ3 H3 k3 r3 ⟨m', lt, w3⟩ => ⟨m', lt, ρ3, w3, r3, k12.trans k3⟩, fun v rv H3 k3 fr ok q => ac.rt v rv H3 (k12.trans k3) fr ok q,
      fun ρ3 σ3 H3 k3 r3 q => ac.nx ρ3 σ3 H3 (k12.trans k3) r3 q, fun ρ3 σ3 H3 k3 r3 ⟨m', lt, w3⟩ => ⟨m', lt, ρ3, w3, r3, k12.trans k3⟩⟩

/-! ### targets -/
def WG (X : Cx) (tg : Expr) : TG := fun v σ H Q => ∀ pins s u, Inv X pins σ H s → RelV v u → wpAny (model X.prog X.w) X.A (assign tg X.env u) (fun _ s' => ∃ σ' H', Inv X pins σ' H' s' ∧ Q σ' H') X.xe s
theorem WG.pg {X : Cx} : PG X tg (WG X tg) := ⟨fun pins s _ _ _ u _ I r h => h pins s u I r⟩
theorem WG.of {X : Cx} {t : TG} {v : V} {Q : St → Hp → Prop} (h : PG X tg t) (q : t v σ H Q) : WG X tg v σ H Q := fun pins s u I r => h.run pins s σ H v u Q I r q
/-- a target takes data -/
def DGo (C : DC) (ρ : Rho) (tg : Expr) (d : PyData) (k : Rho → Prop) : Prop :=
  ∀ σ H v (Q : St → Hp → Prop), C.Rs ρ σ H → C.Rp H v d → (∀ ρ' σ', C.Rs ρ' σ' H → k ρ' → Q σ' H) → WG C.X tg v σ H Q
theorem dg_name {i : Nat} {x : Str} {d : PyData} {k : Rho → Prop} (q : k (ρ.set i (.dat d))) (hN : C.X.N.Nodup) (hi : C.X.N[i]? = some x) (hx : Loc C.X.env.scope x) (hf : C.X.fn x = true ∨ C.X.env.scope.names.lookup x = some .local := by first | exact .inl rfl | exact .inr rfl | assumption) :
    DGo C ρ (.Name x pos) d k := fun σ H v Q r rp g => WG.of (pg_name hN hi hx hf) (g _ _ (Rs.setD r rp) q)
def DGs (C : DC) (ρ : Rho) (ts : List Expr) (ds : List PyData) (k : Rho → Prop) : Prop :=
  ∃ t, PGs C.X ts t ∧ ∀ σ H vs (Q : St → Hp → Prop), C.Rs ρ σ H → C.RpL H vs ds → (∀ ρ' σ', C.Rs ρ' σ' H → k ρ' → Q σ' H) → t vs σ H Q
theorem dgs_nil {k : Rho → Prop} (q : k ρ) : DGs C ρ [] [] k := ⟨_, pgs_nil, fun σ H vs Q r rp g => by
  cases rp
  exact ⟨rfl, g ρ σ r q⟩⟩
theorem dgs_cons {i : Nat} {x : Str} {d : PyData} {ts : List Expr} {ds : List PyData} {k : Rho → Prop} (h : DGs C (ρ.set i (.dat d)) ts ds k) (hN : C.X.N.Nodup) (hi : C.X.N[i]? = some x) (hx : Loc C.X.env.scope x) (hf : C.X.fn x = true ∨ C.X.env.scope.names.lookup x = some .local := by first | exact .inl rfl | exact .inr rfl | assumption)
    (hs : (assignEach (.Name x pos :: ts) C.X.env).map (·.2) = assign (.Name x pos) C.X.env :: (assignEach ts C.X.env).map (·.2) := by rfl) : DGs C ρ (.Name x pos :: ts) (d :: ds) k := by
  obtain ⟨t, h1, h2⟩ := h
  refine ⟨_, pgs_cons (pg_name hN hi hx hf) h1 hs, fun σ H vs Q r rp g => ?_⟩
  cases rp with
  | cons rp1 rp2 => exact ⟨_, _, rfl, h2 _ H _ Q (Rs.setD r rp1) rp2 g⟩
theorem dg_tup {ts : List Expr} {kk : Nat} {ds : List PyData} {k : Rho → Prop} {n : Nat} (h : DGs C ρ ts ds k) (hd : ds.length = n) (hc : C.X.calm = true) (hn : (assignEach ts C.X.env).length = n := by rfl) (hst : (assignEach ts C.X.env).findIdx? (·.1) = none := by rfl) :
    DGo C ρ (.Tuple ts kk pos) (.tuple ds) k := fun σ H v Q r rp g => by
  obtain ⟨t, h1, h2⟩ := h
  refine WG.of (pg_tup hc h1 hn hst) ?_
  obtain ⟨l, vs, rfl, e1, e2⟩ := (Mp.rp rp).tup
  exact ⟨l, vs, rfl, e1, by rw [e2.length]; exact hd, h2 σ H vs Q r e2 g⟩
/-- a, b = e -/
theorem ds_asg {tg : Expr} (h : DE C ρ e fun ev ρ1 => ∃ d, ev = .dat d ∧ DGo C ρ1 tg d nx) (hs : swapsWithSole [tg] e pos.line C.X.env = pure false := by rfl) (hw : swappedStores [tg] e C.X.env = pure none := by rfl)
    (h1 : (assignEach [tg] C.X.env).map (·.2) = [assign tg C.X.env] := by rfl) : DS C ρ (.Assign [tg] e pos) nx rt bk ct := fun σ H E r ac => by
  refine WS.of (ps_asg WE.pe WG.pg hs hw h1) ?_
  refine h σ H _ r fun v ev ρ1 H1 k1 r1 o1 h1 => ?_
  obtain ⟨d, rfl, hg⟩ := h1
  exact hg σ H1 v _ r1 o1 fun ρ2 σ2 r2 q => ac.nx ρ2 σ2 H1 k1 r2 q
/-- a, b = x, y -/
theorem ds_par {i j : Nat} {x y : Str} {px py pt : Pos} {kt k2 pt2} (h : DA C ρ [a, b] fun evs ρ1 => ∃ d d', evs = [.dat d, .dat d'] ∧ nx ((ρ1.set i (.dat d)).set j (.dat d')))
    (hp : ∀ ta, PA C.X [a, b] ta → PS C.X (.Assign [.Tuple [.Name x px, .Name y py] kt pt] (.Tuple [a, b] k2 pt2) pos) (tPar i j ta)) : DS C ρ (.Assign [.Tuple [.Name x px, .Name y py] kt pt] (.Tuple [a, b] k2 pt2) pos) nx rt bk ct := fun σ H E r ac => by
  refine WS.of (hp _ WA.pa) ?_
  refine h σ H _ r fun vs evs ρ1 H1 k1 r1 o1 h1 => ?_
  obtain ⟨d, d', rfl, hk⟩ := h1
  cases o1 with
  | cons q1 q2 =>
    cases q2 with
    | cons q2 q3 =>
      cases q3
      exact ⟨_, _, rfl, ac.nx _ _ H1 k1 (Rs.setD (Rs.setD r1 q1) q2) hk⟩

/-! ### what is walked -/
def WI (X : Cx) (tg iter : Expr) : TI := fun σ H R => ∀ pins s, Inv X pins σ H s → wpAny (model X.prog X.w) X.A (eval iter X.env) (fun v s1 => wpAny (model X.prog X.w) X.A (pyIter v) (PIE X pins σ tg R) X.xe s1) X.xe s
theorem WI.pi {X : Cx} : PI X tg iter (WI X tg iter) := ⟨fun pins s _ _ _ I h => h pins s I⟩
theorem WI.of {X : Cx} {wi : TI} {R : It → Hp → Prop} (h : PI X tg iter wi) (q : wi σ H R) : WI X tg iter σ H R := fun pins s I => h.run pins s σ H R I q
/-- J gives the items ds, whatever else changes -/
structure Wk (K : PySem.W.Frag) (H : Hp) (J : It) (ds : List PyData) : Prop where
  go : ∀ H1 i, KT H H1 → i < ds.length → J.go i H1
  yld : ∀ H1 i x H2, KT H H1 → J.yld i H1 x H2 → Ex H1 H2 ∧ ∀ d, ds[i]? = some d → Rp K H2 x d
  stop : ∀ H1, KT H H1 → J.stop ds.length H1
def DI (C : DC) (ρ : Rho) (tg iter : Expr) (k : List PyData → Rho → Prop) : Prop :=
  ∀ σ H (R : It → Hp → Prop), C.Rs ρ σ H → (∀ J ds ρ' H', KT H H' → C.Rs ρ' σ H' → Wk C.X.K H' J ds → k ds ρ' → R J H') → WI C.X tg iter σ H R
theorem di_tup (h : DE C ρ iter fun ev ρ1 => ∃ ds, ev = .dat (.tuple ds) ∧ kl ds ρ1) : DI C ρ tg iter kl := fun σ H R r g => by
  refine WI.of (pi_tup WE.pe) ?_
  refine h σ H _ r fun v ev ρ1 H1 k1 r1 o1 h1 => ?_
  obtain ⟨ds, rfl, hk⟩ := h1
  obtain ⟨l, vs, rfl, e1, e2⟩ := (Mp.rp o1).tup
  refine ⟨l, rfl, ⟨vs, e1⟩, g _ ds ρ1 H1 k1 r1 ⟨fun H2 i k2 hi => ?_, fun H2 i x H3 k2 hy => ?_, fun H2 k2 => ⟨vs, sqt_kt k2 e1, by rw [e2.length]; exact Nat.le_refl _⟩⟩ hk⟩
  · have hi' : i < vs.length := by rw [e2.length]; exact hi
    exact ⟨vs, vs[i], sqt_kt k2 e1, List.getElem?_eq_getElem hi'⟩
  · obtain ⟨rfl, hy⟩ := hy
    refine ⟨Ex.refl _, fun d hd => ?_⟩
    obtain ⟨v, hv, rv⟩ := e2.getD hd
    have := hy vs (sqt_kt k2 e1)
    rw [hv] at this
    cases this
    exact rv.kt k2
theorem di_lst (h : DE C ρ iter fun ev ρ1 => ∃ ds, ev = .dat (.list ds) ∧ kl ds ρ1) : DI C ρ tg iter kl := fun σ H R r g => by
  refine WI.of (pi_list WE.pe) ?_
  refine h σ H _ r fun v ev ρ1 H1 k1 r1 o1 h1 => ?_
  obtain ⟨ds, rfl, hk⟩ := h1
  obtain ⟨l, vs, rfl, e1, e2⟩ : ∃ l vs, v = .ref l ∧ SqF C.X.K H1 l vs ∧ C.RpL H1 vs ds := by
    cases (show C.Rp H1 v (.list ds) from o1) with
    | lst h q => exact ⟨_, _, rfl, h, q⟩
  refine ⟨l, rfl, ⟨vs, e1.l⟩, g _ ds ρ1 H1 k1 r1 ⟨fun H2 i k2 hi => ?_, fun H2 i x H3 k2 hy => ?_, fun H2 k2 => ⟨vs, (e1.kt k2).l, by rw [e2.length]; exact Nat.le_refl _⟩⟩ hk⟩
  · have hi' : i < vs.length := by rw [e2.length]; exact hi
    exact ⟨vs, vs[i], (e1.kt k2).l, List.getElem?_eq_getElem hi'⟩
  · obtain ⟨rfl, hy⟩ := hy
    refine ⟨Ex.refl _, fun d hd => ?_⟩
    obtain ⟨v, hv, rv⟩ := e2.getD hd
    have := hy vs (e1.kt k2).l
    rw [hv] at this
    cases this
    exact rv.kt k2
def upTo (lo : Int) (n : Nat) : List PyData := (List.range n).map fun (i : Nat) => .int (lo + i)
theorem upTo_len (lo : Int) (n : Nat) : (upTo lo n).length = n := by unfold upTo; rw [List.length_map, List.length_range]
theorem upTo_get {lo : Int} {n i : Nat} {d : PyData} (h : (upTo lo n)[i]? = some d) : i < n ∧ d = .int (lo + i) := by
  have hi : i < n := by
    have := (List.getElem?_eq_some_iff.mp h).1
    rwa [upTo_len] at this
  unfold upTo at h
  rw [List.getElem?_map, List.getElem?_range hi] at h
  cases h
  exact ⟨hi, rfl⟩
theorem wk_range {K : PySem.W.Frag} (lo : Int) (n : Nat) : Wk K H (Itr lo n) (upTo lo n) := ⟨fun _ i _ hi => by rw [upTo_len] at hi; exact hi, fun _ i x _ _ hy => by
  obtain ⟨rfl, rfl⟩ := hy
  refine ⟨Ex.refl _, fun d hd => ?_⟩
  obtain ⟨_, rfl⟩ := upTo_get hd
  exact .int _, fun _ _ => by rw [upTo_len]; exact Nat.le_refl _⟩
theorem di_range1 {pr : Pos} (hm : C.X.mg "range" = none) (hg : Gl C.X "range") (h : DE C ρ a fun ev ρ1 => ∃ n : Int, ev = .dat (.int n) ∧ -(2 ^ 62) ≤ n ∧ n < 2 ^ 62 ∧ kl (upTo 0 n.toNat) ρ1) (hs : starEach [a] C.X.env = [(false, eval a C.X.env)] := by rfl) : DI C ρ tg (.Call (.Name "range" p) [a] [] pr) kl := fun σ H R r g => by
  refine WI.of (pi_range1 hg hm (pa_cons WE.pe pa_nil hs) hs) ?_
  refine h σ H _ r fun v ev ρ1 H1 k1 r1 o1 h1 => ?_
  obtain ⟨n, rfl, b1, b2, hk⟩ := h1
  cases (Mp.rp o1).int
  exact ⟨n, rfl, b1, b2, g _ _ ρ1 H1 k1 r1 (wk_range 0 n.toNat) hk⟩
theorem di_range2 {pr : Pos} (hm : C.X.mg "range" = none) (hg : Gl C.X "range") (h : DA C ρ [a, b] fun evs ρ1 => ∃ lo hi : Int, evs = [.dat (.int lo), .dat (.int hi)] ∧ (-(2 ^ 62) ≤ lo ∧ lo < 2 ^ 62 ∧ -(2 ^ 62) ≤ hi ∧ hi < 2 ^ 62) ∧ kl (upTo lo (hi - lo).toNat) ρ1)
    (hs : starEach [a, b] C.X.env = [(false, eval a C.X.env), (false, eval b C.X.env)] := by rfl) (hs2 : starEach [b] C.X.env = [(false, eval b C.X.env)] := by rfl) : DI C ρ tg (.Call (.Name "range" p) [a, b] [] pr) kl := fun σ H R r g => by
  refine WI.of (pi_range2 hg hm WA.pa hs hs2) ?_
  refine h σ H _ r fun vs evs ρ1 H1 k1 r1 o1 h1 => ?_
  obtain ⟨lo, hi, rfl, b1, hk⟩ := h1
  cases o1 with
  | cons q1 q2 =>
    cases q2 with
    | cons q2 q3 =>
      cases q3
      cases (Mp.rp q1).int
      cases (Mp.rp q2).int
      exact ⟨lo, hi, rfl, b1, g _ _ ρ1 H1 k1 r1 (wk_range lo _) hk⟩
/-- range(a, b, -1) -/
def downFrom (lo : Int) (n : Nat) : List PyData := (List.range n).map fun (i : Nat) => .int (lo - i)
theorem downFrom_len (lo : Int) (n : Nat) : (downFrom lo n).length = n := by unfold downFrom; rw [List.length_map, List.length_range]
theorem downFrom_get {lo : Int} {n i : Nat} {d : PyData} (h : (downFrom lo n)[i]? = some d) : i < n ∧ d = .int (lo - i) := by
  have hi : i < n := by
    have := (List.getElem?_eq_some_iff.mp h).1
    rwa [downFrom_len] at this
  unfold downFrom at h
  rw [List.getElem?_map, List.getElem?_range hi] at h
  cases h
  exact ⟨hi, rfl⟩
theorem wk_down {K : PySem.W.Frag} (lo : Int) (n : Nat) : Wk K H (Itc lo (-1) n) (downFrom lo n) := ⟨fun _ i _ hi => by rw [downFrom_len] at hi; exact hi, fun _ i x _ _ hy => by
  obtain ⟨rfl, rfl⟩ := hy
  refine ⟨Ex.refl _, fun d hd => ?_⟩
  obtain ⟨_, rfl⟩ := downFrom_get hd
  have e : lo + (i : Int) * (-1) = lo - i := by omega
  rw [e]
  exact .int _, fun _ _ => by rw [downFrom_len]; exact Nat.le_refl _⟩
theorem di_str (h : DE C ρ iter fun ev ρ1 => ∃ x : Str, ev = .dat (.str x) ∧ kl (x.cps.toList.map fun c => .str ⟨#[c]⟩) ρ1) : DI C ρ tg iter kl := fun σ H R r g => by
  refine WI.of (pi_str WE.pe) ?_
  refine h σ H _ r fun v ev ρ1 H1 k1 r1 o1 h1 => ?_
  obtain ⟨x, rfl, hk⟩ := h1
  cases (Mp.rp o1).str
  refine ⟨x, rfl, g _ _ ρ1 H1 k1 r1 ⟨fun H2 i k2 hi => ?_, fun H2 i y H3 k2 hy => ?_, fun H2 k2 => ?_⟩ hk⟩
  · rw [List.length_map, Array.length_toList] at hi
    exact hi
  · obtain ⟨rfl, c, hc, rfl⟩ := hy
    refine ⟨Ex.refl _, fun d hd => ?_⟩
    rw [List.getElem?_map, Array.getElem?_toList, hc] at hd
    cases hd
    exact .str _
  · rw [List.length_map, Array.length_toList]
    exact Nat.le_refl _

/-! ### for -/
theorem ds_for (h : DI C ρ tg iter fun ds ρ1 => ∃ I : Nat → Rho → Prop, I 0 ρ1 ∧ (∀ i d ρ2, ds[i]? = some d → I i ρ2 → DGo C ρ2 tg d fun ρ3 => DB C ρ3 body (I (i + 1)) rt nx (I (i + 1))) ∧ ∀ ρ2, I ds.length ρ2 → nx ρ2)
    (hc : C.X.calm = true := by rfl) (hp : PassesOwn (model C.X.prog C.X.w) C.X.A C.X.env C.X.xe := by exact PassesOwn.never)
    (hf : ∀ wi g tb, PI C.X tg iter wi → PG C.X tg g → PSs C.X body tb → PS C.X (.For tg iter body [] pos) (tFor wi g tb) := by exact fun _ _ _ hi hg hb => ps_for (by exact PassesOwn.never) rfl hi hg hb) :
    DS C ρ (.For tg iter body [] pos) nx rt bk ct := fun σ H E r ac => by
  refine WS.of (hf _ _ _ WI.pi WG.pg WB.pss) ?_
  refine h σ H _ r fun J ds ρ1 H1 k1 r1 w h1 => ?_
  obtain ⟨I, i0, hs, hd⟩ := h1
  refine ⟨fun i m σ' H' => i + m = ds.length ∧ ∃ ρ', I i ρ' ∧ C.Rs ρ' σ' H' ∧ KT H1 H', ⟨ds.length, Nat.zero_add _, ρ1, i0, r1, KT.refl H1⟩, fun i m σ2 H2 ⟨em, ρ2, i2, r2, k2⟩ => ?_⟩
  by_cases hi : i < ds.length
  · refine .inr ⟨w.go H2 i k2 hi, fun σ3 H3 => ∃ ρ3, I (i + 1) ρ3 ∧ C.Rs ρ3 σ3 H3 ∧ KT H1 H3, fun σ3 H3 z => ⟨m - 1, by omega, by omega, z⟩, fun x H3 hy => ?_⟩
    obtain ⟨ex, hx⟩ := w.yld H2 i x H3 k2 hy
    have hgd := hs i ds[i] ρ2 (List.getElem?_eq_getElem hi) i2
    refine hgd σ2 H3 x _ (r2.ex ex) (hx _ (List.getElem?_eq_getElem hi)) fun ρ4 σ4 r4 q4 => ?_
    have k3 := k2.trans ex.kt
    exact q4 σ4 H3 _ r4 ⟨fun ρ5 σ5 H5 k5 r5 q5 => ⟨ρ5, q5, r5, k3.trans k5⟩, fun v rv H5 k5 fr ok q => ac.rt v rv H5 ((k1.trans k3).trans k5) fr ok q,
      fun ρ5 σ5 H5 k5 r5 q => ac.nx ρ5 σ5 H5 ((k1.trans k3).trans k5) r5 q, fun ρ5 σ5 H5 k5 r5 q5 => ⟨ρ5, q5, r5, k3.trans k5⟩⟩
  · have e : i = ds.length := by omega
    subst e
    exact .inl ⟨w.stop H2 k2, ac.nx ρ2 σ2 H2 (k1.trans k2) r2 (hd ρ2 i2)⟩
end
end DW
namespace DW
open PySem L2
section
variable {C : DC} {K : PySem.W.Frag} {H0 : Hp} {dr : Option Addr} {ρ ρ' : Rho} {σ τ : St} {H H' : Hp} {e a b c iter elt : Expr} {es : List Expr} {pos p apos cpos px : Pos} {k : EV → Rho → Prop} {kd : PyData → Prop} {kl : List PyData → Rho → Prop} {nx : Rho → Prop} {rt : RV → Prop} {bk ct : Rho → Prop} {kt : Bool → Rho → Prop} {tg : Expr}

/-! ### a list in the making, that no slot knows -/
def pin (H0 : Hp) (p : Addr) (o : HO) : Hp := fun b => if b = p then some o else H0 b
theorem pin_same {o : HO} {p : Addr} : pin H0 p o p = some o := by unfold pin; rw [if_pos rfl]
theorem pin_ne {o : HO} {p q : Addr} (h : q ≠ p) : pin H0 p o q = H0 q := by unfold pin; rw [if_neg h]
theorem own_ne {l p : Addr} {i : Nat} {sv : SV} (n : New H0 dr ρ σ p) (r : Rs K H0 dr ρ σ H) (h : ρ[i]? = some sv) (ho : sv.isOwn = true) (e : σ[i]?.join = some (.ref l)) : l ≠ p := fun z => by
  subst z
  have h1 : i < ρ.length := (List.getElem?_eq_some_iff.mp h).1
  rw [← r.len] at h1
  have hw := List.getElem?_eq_getElem h1
  rw [hw] at e
  exact n.s i sv h ho (by rw [hw, show σ[i] = some (.ref l) from e])
theorem rs_pin {q : Addr} {vs : List V} (r : Rs K H0 dr ρ σ H) (n : New H0 dr ρ σ q) (hq : H q = some (.lst vs)) : Rs K (pin H0 q (.lst vs)) dr ρ σ H := by
  refine ⟨⟨fun b o h hd => ?_, ⟨fun b xs h => ?_, fun b o u h => ?_⟩, r.fr.drw⟩, r.len, fun i sv h => ?_, r.sep⟩
  · by_cases hb : b = q
    · subst hb
      rw [pin_same] at h
      cases h
      exact hq
    · rw [pin_ne hb] at h
      exact r.fr.ext b o h hd
  · by_cases hb : b = q
    · subst hb
      rw [pin_same] at h
      cases h
    · rw [pin_ne hb] at h
      exact r.fr.kt.t b xs h
  · by_cases hb : b = q
    · subst hb
      rw [pin_same] at h
      cases h
    · rw [pin_ne hb] at h
      exact r.fr.kt.f b o u h
  · have hs := r.sl i sv h
    cases sv with
    | no => exact True.intro
    | dat d => exact hs
    | own ds =>
      obtain ⟨l, h1, h2, h3, ws, h4, h5⟩ := hs
      exact ⟨l, h1, by rw [pin_ne (own_ne n r h rfl h1)]; exact h2, h3, ws, h4, h5⟩
    | dic ds =>
      obtain ⟨l, h1, h2, h3, ws, h4, h5⟩ := hs
      exact ⟨l, h1, by rw [pin_ne (own_ne n r h rfl h1)]; exact h2, h3, ws, h4, h5⟩
    | drw => exact hs
    | scr ns => exact hs
theorem rs_unpin {q : Addr} {vs : List V} (r : Rs K (pin H0 q (.lst vs)) dr ρ σ H) (n1 : H0 q = none) (n2 : dr ≠ some q) : Rs K H0 dr ρ σ H ∧ H q = some (.lst vs) ∧ New H0 dr ρ σ q := by
  have hne : ∀ b o, H0 b = some o → b ≠ q := fun b o h z => by rw [z, n1] at h; cases h
  have hq := r.fr.ext q _ pin_same n2
  refine ⟨⟨⟨fun b o h hd => r.fr.ext b o (by rw [pin_ne (hne b o h)]; exact h) hd, ⟨fun b xs h => r.fr.kt.t b xs (by rw [pin_ne (hne b _ h)]; exact h), fun b o u h => r.fr.kt.f b o u (by rw [pin_ne (hne b _ h)]; exact h)⟩, r.fr.drw⟩, r.len, fun i sv h => ?_, r.sep⟩, hq, ⟨n1, n2, fun i sv h ho e => ?_⟩⟩
  · have hs := r.sl i sv h
    cases sv with
    | no => exact True.intro
    | dat d => exact hs
    | own ds =>
      obtain ⟨l, h1, h2, h3, ws, h4, h5⟩ := hs
      have hl : l ≠ q := fun z => by rw [z, pin_same] at h2; cases h2
      exact ⟨l, h1, by rw [pin_ne hl] at h2; exact h2, h3, ws, h4, h5⟩
    | dic ds =>
      obtain ⟨l, h1, h2, h3, ws, h4, h5⟩ := hs
      have hl : l ≠ q := fun z => by rw [z, pin_same] at h2; cases h2
      exact ⟨l, h1, by rw [pin_ne hl] at h2; exact h2, h3, ws, h4, h5⟩
    | drw => exact hs
    | scr ns => exact hs
  · have hs := r.sl i sv h
    cases sv with
    | own ds =>
      obtain ⟨l, h1, h2, _⟩ := hs
      rw [e] at h1
      cases h1
      rw [pin_same] at h2
      cases h2
    | dic ds =>
      obtain ⟨l, h1, h2, _⟩ := hs
      rw [e] at h1
      cases h1
      rw [pin_same] at h2
      cases h2
    | no => cases ho
    | dat d => cases ho
    | drw => cases ho
    | scr ns => cases ho
theorem rs_other {q : Addr} {vs vs' : List V} (r : Rs K H0 dr ρ σ H) (n : New H0 dr ρ σ q) (hq : H q = some (.lst vs)) : Rs K H0 dr ρ σ (L2.upd H q (.lst vs')) := by
  have kt : KT H (L2.upd H q (.lst vs')) := KT.lst hq
  refine ⟨⟨fun b w h hd => ?_, r.fr.kt.trans kt, fun a h => ?_⟩, r.len, fun i sv h => ?_, r.sep⟩
  · rw [upd_ne (fun z => by rw [z, n.e] at h; cases h)]
    exact r.fr.ext b w h hd
  · obtain ⟨g, m, c, z, t⟩ := r.fr.drw a h
    exact ⟨g, m, c, by
      rw [upd_ne (fun z => n.d (by rw [h, z]))]
      exact z, t⟩
  · have hs := r.sl i sv h
    cases sv with
    | no => exact True.intro
    | dat d =>
      obtain ⟨x, h1, h2⟩ := hs
      exact ⟨x, h1, h2.kt kt⟩
    | own ds =>
      obtain ⟨l, h1, h2, h3, ws, h4, h5⟩ := hs
      exact ⟨l, h1, h2, h3, ws, by rw [upd_ne (own_ne n r h rfl h1)]; exact h4, h5.kt kt⟩
    | dic ds =>
      obtain ⟨l, h1, h2, h3, ws, h4, h5⟩ := hs
      exact ⟨l, h1, h2, h3, ws, by rw [upd_ne (own_ne n r h rfl h1)]; exact h4, h5.kt kt⟩
    | drw => exact hs
    | scr ns =>
      obtain ⟨a, h1, h2⟩ := hs
      exact ⟨a, h1, h2.kt kt⟩
/-- a slot of which nothing is known may hold anything -/
theorem rs_slot {j : Nat} (r : Rs K H0 dr ρ σ H) (hl : τ.length = σ.length) (he : ∀ i, i ≠ j → τ[i]? = σ[i]?) : Rs K H0 dr (ρ.set j .no) τ H := by
  refine ⟨r.fr, by rw [List.length_set, hl]; exact r.len, fun i sv h => ?_, fun i1 i2 s1 s2 l h1 h2 o1 o2 e1 e2 => ?_⟩
  · by_cases hi : j = i
    · subst hi
      have hj : j < ρ.length := by
        have := (List.getElem?_eq_some_iff.mp h).1
        rwa [List.length_set] at this
      rw [List.getElem?_set_self hj] at h
      cases h
      exact True.intro
    · rw [List.getElem?_set_ne hi] at h
      rw [he i (fun z => hi z.symm)]
      exact r.sl i sv h
  · have n1 : j ≠ i1 := fun z => by
      subst z
      have hj : j < ρ.length := by
        have := (List.getElem?_eq_some_iff.mp h1).1
        rwa [List.length_set] at this
      rw [List.getElem?_set_self hj] at h1
      cases h1
      cases o1
    have n2 : j ≠ i2 := fun z => by
      subst z
      have hj : j < ρ.length := by
        have := (List.getElem?_eq_some_iff.mp h2).1
        rwa [List.length_set] at this
      rw [List.getElem?_set_self hj] at h2
      cases h2
      cases o2
    rw [List.getElem?_set_ne n1] at h1
    rw [List.getElem?_set_ne n2] at h2
    rw [he i1 (fun z => n1 z.symm)] at e1
    rw [he i2 (fun z => n2 z.symm)] at e2
    exact r.sep i1 i2 s1 s2 l h1 h2 o1 o2 e1 e2
theorem set_no {j : Nat} (h : ρ[j]? = some .no) : ρ.set j .no = ρ := by
  apply List.ext_getElem?
  intro i
  by_cases hi : j = i
  · subst hi
    rw [List.getElem?_set_self (List.getElem?_eq_some_iff.mp h).1, h]
  · rw [List.getElem?_set_ne hi]

/-! ### a list comprehension -/
abbrev blkX (X : Cx) (scope : Scope) (s : Shared) (H : Hp) (C0 : Addr) (cl : List (Str × Addr)) (fp : List Addr) : Cx := X.blk s H scope (compEnvC scope cl C0 X.env) fp
def WEb (X : Cx) (scope : Scope) (e : Expr) : TE := fun σ H Q => ∀ s H0 C0 cl fp, WE (blkX X scope s H0 C0 cl fp) e σ H Q
def WTb (X : Cx) (scope : Scope) (e : Expr) : TT := fun σ H Q => ∀ s H0 C0 cl fp, WT (blkX X scope s H0 C0 cl fp) e σ H Q
theorem lc_core {scope : Scope} {j : Nat} {tt : TT} {te : TE} {J : It} {H1 : Hp} {ds : List PyData} {ρ1 : Rho} {Q : VK} (r : C.Rs ρ1 σ H1) (w : Wk C.X.K H1 J ds) (hno : ρ1[j]? = some .no) (hz : ds.length < sizeLine)
    (g : ∀ q vs zs ρ2 H2, KT H1 H2 → C.Rs ρ2 σ H2 → New C.H0 C.dr ρ2 σ q → H2 q = some (.lst vs) → C.RpL H2 vs zs → kl zs ρ2 → Q (.ref q) H2)
    (I : Nat → List PyData → Rho → Prop) (i0 : I 0 [] ρ1) (hd : ∀ acc ρ2, I ds.length acc ρ2 → kl acc ρ2)
    (hs : ∀ i d acc ρ2, ds[i]? = some d → I i acc ρ2 → ∀ Hx σ2 H2 (Qt : Bool → Hp → Prop), Rs C.X.K Hx C.dr (ρ2.set j (.dat d)) σ2 H2 → (∀ b ρ3 H3, KT H2 H3 → Rs C.X.K Hx C.dr ρ3 σ2 H3 → (b = true → ∀ (Qe : VK), (∀ v d' ρ4 H4, KT H3 H4 → Rs C.X.K Hx C.dr ρ4 σ2 H4 → Rp C.X.K H4 v d' → I (i + 1) (acc ++ [d']) (ρ4.set j .no) → Qe v H4) → te σ2 H3 Qe) →
        (b = false → I (i + 1) acc (ρ3.set j .no)) → Qt b H3) → tt σ2 H2 Qt) :
    ∀ q, H1 q = none → ∃ W : Nat → Nat → Hp → Prop, (∃ m, W 0 m (L2.upd H1 q (.lst []))) ∧ ∀ i m H, W i m H →
      (J.stop i H ∧ Q (.ref q) H) ∨ (J.go i H ∧ ∃ Nx : Hp → Prop, (∀ H', Nx H' → ∃ m', m' < m ∧ W (i + 1) m' H') ∧ ∀ x H', J.yld i H x H' → gName j x (wipe σ [j]) H' fun σ2 H2 => wipe σ2 [j] = wipe σ [j] ∧ tt σ2 H2 fun b H3 =>
        if b = true then te σ2 H3 fun y H4 => ∃ acc, H4 q = some (.lst acc) ∧ acc.length < sizeLine ∧ Nx (L2.upd H4 q (.lst (acc ++ [y]))) else Nx H3) := by
  intro q nq
  have hj : j < ρ1.length := (List.getElem?_eq_some_iff.mp hno).1
  have hjσ : j < σ.length := by rw [r.len]; exact hj
  have new1 : New C.H0 C.dr ρ1 σ q := New.of_none r nq
  have ex1 : Ex H1 (L2.upd H1 q (.lst [])) := Ex.new nq
  refine ⟨fun i m H2 => i + m = ds.length ∧ KT H1 H2 ∧ ∃ acc vs ρ2, I i acc ρ2 ∧ acc.length ≤ i ∧ ρ2[j]? = some .no ∧ C.Rs ρ2 σ H2 ∧ New C.H0 C.dr ρ2 σ q ∧ H2 q = some (.lst vs) ∧ C.RpL H2 vs acc,
    ⟨ds.length, Nat.zero_add _, ex1.kt, [], [], ρ1, i0, Nat.le_refl _, hno, r.ex ex1, new1, upd_same, .nil⟩, fun i m H2 ⟨em, k2, acc, vs, ρ2, i2, al, no2, r2, n2, hq, hl⟩ => ?_⟩
  by_cases hi : i < ds.length
  · refine .inr ⟨w.go H2 i k2 hi, fun H3 => KT H1 H3 ∧ ∃ acc vs ρ2, I (i + 1) acc ρ2 ∧ acc.length ≤ i + 1 ∧ ρ2[j]? = some .no ∧ C.Rs ρ2 σ H3 ∧ New C.H0 C.dr ρ2 σ q ∧ H3 q = some (.lst vs) ∧ C.RpL H3 vs acc, fun H3 z => ⟨m - 1, by omega, by omega, z⟩, fun x H3 hy => ?_⟩
    obtain ⟨ex, hx⟩ := w.yld H2 i x H3 k2 hy
    have hxd := hx _ (List.getElem?_eq_getElem hi)
    have r3 := r2.ex ex
    have hq3 := ex q _ hq
    have l2 : j < ρ2.length := (List.getElem?_eq_some_iff.mp no2).1
    have hw : wipe σ [j] = σ.set j none := rfl
    show wipe (((wipe σ [j]).set j (some x))) [j] = wipe σ [j] ∧ _
    refine ⟨by rw [hw]; show ((σ.set j none).set j (some x)).set j none = σ.set j none; rw [List.set_set, List.set_set], ?_⟩
    -- the turn, with the list in the making pinned
    have rp := rs_pin r3 n2 hq3
    have rs1 : Rs C.X.K (pin C.H0 q (.lst vs)) C.dr (ρ2.set j .no) (σ.set j none) H3 := rs_slot rp (List.length_set ..) fun i hi => List.getElem?_set_ne (fun z => hi z.symm)
    rw [set_no no2] at rs1
    have rs2 : Rs C.X.K (pin C.H0 q (.lst vs)) C.dr (ρ2.set j (.dat ds[i])) ((σ.set j none).set j (some x)) H3 := Rs.setD (C := ⟨C.X, pin C.H0 q (.lst vs), C.dr⟩) rs1 hxd
    have back : ∀ {ρ4 : Rho} {H4 : Hp}, Rs C.X.K (pin C.H0 q (.lst vs)) C.dr ρ4 ((σ.set j none).set j (some x)) H4 → C.Rs (ρ4.set j .no) σ H4 ∧ H4 q = some (.lst vs) ∧ New C.H0 C.dr (ρ4.set j .no) σ q ∧ (ρ4.set j .no)[j]? = some .no := fun {ρ4 H4} r4 => by
      have r5 : Rs C.X.K (pin C.H0 q (.lst vs)) C.dr (ρ4.set j .no) σ H4 := rs_slot r4 (by rw [List.length_set, List.length_set]) fun i hi => by rw [List.getElem?_set_ne (fun z => hi z.symm), List.getElem?_set_ne (fun z => hi z.symm)]
      obtain ⟨a1, a2, a3⟩ := rs_unpin r5 n2.e n2.d
      refine ⟨a1, a2, a3, List.getElem?_set_self ?_⟩
      have := r4.len
      rw [List.length_set, List.length_set] at this
      omega
    refine hs i ds[i] acc ρ2 (List.getElem?_eq_getElem hi) i2 _ _ H3 _ rs2 fun b ρ4 H4 k4 r4 ht hf => ?_
    have k34 := (k2.trans ex.kt).trans k4
    cases b with
    | false =>
      refine iteF ?_
      obtain ⟨a1, a2, a3, a4⟩ := back r4
      exact ⟨k34, acc, vs, ρ4.set j .no, hf rfl, by omega, a4, a1, a3, a2, hl.kt (ex.kt.trans k4)⟩
    | true =>
      refine iteT ?_
      refine ht rfl _ fun v d' ρ5 H5 k5 r5 rpv hI => ?_
      obtain ⟨a1, a2, a3, a4⟩ := back r5
      have hl5 : C.RpL H5 vs acc := hl.kt ((ex.kt.trans k4).trans k5)
      refine ⟨vs, a2, by rw [hl5.length]; omega, (k34.trans k5).trans (KT.lst a2), acc ++ [d'], vs ++ [v], ρ5.set j .no, hI, by rw [List.length_append, List.length_singleton]; omega, a4, rs_other a1 a3 a2, a3, upd_same, (hl5.snoc rpv).kt (KT.lst a2)⟩
  · have ei : i = ds.length := by omega
    subst ei
    exact .inl ⟨w.stop H2 k2, g q vs acc ρ2 H2 k2 r2 n2 hq hl (hd acc ρ2 i2)⟩
theorem dl_lc {scope : Scope} {x : Str} {j : Nat} (h : DI C ρ (.Name x px) iter fun ds ρ1 => ρ1[j]? = some .no ∧ ds.length < sizeLine ∧ ∃ I : Nat → List PyData → Rho → Prop, I 0 [] ρ1 ∧
      (∀ i d acc ρ2, ds[i]? = some d → I i acc ρ2 → ∀ s H0 C0 cl fp Hx, DE ⟨blkX C.X scope s H0 C0 cl fp, Hx, C.dr⟩ (ρ2.set j (.dat d)) elt fun ev ρ3 => ∃ d', ev = .dat d' ∧ I (i + 1) (acc ++ [d']) (ρ3.set j .no)) ∧ ∀ acc ρ2, I ds.length acc ρ2 → kl acc ρ2)
    (ok : BlkOk C.X.N C.X.env.scope scope [(x, j)]) (hN : C.X.N.Nodup)
    (hg : ∀ s H0 C0 cl fp, PG (blkX C.X scope s H0 C0 cl fp) (.Name x px) (gName j))
    (hc : C.X.calm = true := by rfl) (hs : ∀ x, foldedSetIterable iter C.X.env x = pure x := by intro _; rfl) :
    DL C ρ (.ListComp elt [⟨.Name x px, iter, [], 0⟩] scope pos) kl := fun σ H Q r g => by
  refine WE.of (pe_lc (own := [(x, j)]) hc hN WI.pi ok hg (fun _ _ _ _ _ => pts_nil) (fun s H0 C0 cl fp => (⟨fun pins s' σ H Q I h => h s H0 C0 cl fp pins s' I⟩ : PE (blkX C.X scope s H0 C0 cl fp) elt (WEb C.X scope elt))) hs) ?_
  refine h σ H _ r fun J ds ρ1 H1 k1 r1 w h1 => ?_
  obtain ⟨hno, hz, I, i0, hst, hd⟩ := h1
  refine lc_core (scope := scope) r1 w hno hz (fun q vs zs ρ2 H2 k2 r2 n2 hq hl hk => g q vs zs ρ2 H2 (k1.trans k2) r2 n2 hq hl hk) I i0 hd fun i d acc ρ2 hdi hI Hx σ2 H2 Qt r2 hq => ?_
  refine hq true _ H2 (KT.refl H2) r2 (fun _ Qe hQe => fun s H0 C0 cl fp => ?_) (fun z => nomatch z)
  refine hst i d acc ρ2 hdi hI s H0 C0 cl fp Hx σ2 H2 Qe r2 fun v ev ρ3 H3 k3 r3 o3 h3 => ?_
  obtain ⟨d', rfl, h3⟩ := h3
  exact hQe v d' ρ3 H3 k3 r3 o3 h3
theorem dl_lcIf {scope : Scope} {x : Str} {j : Nat} (h : DI C ρ (.Name x px) iter fun ds ρ1 => ρ1[j]? = some .no ∧ ds.length < sizeLine ∧ ∃ I : Nat → List PyData → Rho → Prop, I 0 [] ρ1 ∧
      (∀ i d acc ρ2, ds[i]? = some d → I i acc ρ2 → ∀ s H0 C0 cl fp Hx, DT ⟨blkX C.X scope s H0 C0 cl fp, Hx, C.dr⟩ (ρ2.set j (.dat d)) c fun t ρ3 => (t = true → ∀ s H0 C0 cl fp, DE ⟨blkX C.X scope s H0 C0 cl fp, Hx, C.dr⟩ ρ3 elt fun ev ρ4 => ∃ d', ev = .dat d' ∧ I (i + 1) (acc ++ [d']) (ρ4.set j .no)) ∧ (t = false → I (i + 1) acc (ρ3.set j .no))) ∧ ∀ acc ρ2, I ds.length acc ρ2 → kl acc ρ2)
    (ok : BlkOk C.X.N C.X.env.scope scope [(x, j)]) (hN : C.X.N.Nodup)
    (hg : ∀ s H0 C0 cl fp, PG (blkX C.X scope s H0 C0 cl fp) (.Name x px) (gName j))
    (hc : C.X.calm = true := by rfl) (hs : ∀ x, foldedSetIterable iter C.X.env x = pure x := by intro _; rfl) :
    DL C ρ (.ListComp elt [⟨.Name x px, iter, [c], 0⟩] scope pos) kl := fun σ H Q r g => by
  refine WE.of (pe_lc (own := [(x, j)]) hc hN WI.pi ok hg (fun s H0 C0 cl fp => pts_one (⟨fun pins s' σ H Q I h => h s H0 C0 cl fp pins s' I⟩ : PT (blkX C.X scope s H0 C0 cl fp) c (WTb C.X scope c)))
    (fun s H0 C0 cl fp => (⟨fun pins s' σ H Q I h => h s H0 C0 cl fp pins s' I⟩ : PE (blkX C.X scope s H0 C0 cl fp) elt (WEb C.X scope elt))) hs) ?_
  refine h σ H _ r fun J ds ρ1 H1 k1 r1 w h1 => ?_
  obtain ⟨hno, hz, I, i0, hst, hd⟩ := h1
  refine lc_core (scope := scope) r1 w hno hz (fun q vs zs ρ2 H2 k2 r2 n2 hq hl hk => g q vs zs ρ2 H2 (k1.trans k2) r2 n2 hq hl hk) I i0 hd fun i d acc ρ2 hdi hI Hx σ2 H2 Qt r2 hq => ?_
  intro s H0 C0 cl fp
  refine hst i d acc ρ2 hdi hI s H0 C0 cl fp Hx σ2 H2 Qt r2 fun t ρ3 H3 k3 r3 h3 => ?_
  refine hq t ρ3 H3 k3 r3 (fun ht Qe hQe => fun s H0 C0 cl fp => ?_) (fun hf => h3.2 hf)
  refine h3.1 ht s H0 C0 cl fp σ2 H3 Qe r3 fun v ev ρ4 H4 k4 r4 o4 h4 => ?_
  obtain ⟨d', rfl, h4⟩ := h4
  exact hQe v d' ρ4 H4 k4 r4 o4 h4
end
end DW
namespace DW
open PySem L2 PyProof.Rows

section
variable {prog : Program} {w : World} {A : Around} {E : Value → Shared → Prop} {s : Shared}
/-- t[:hi:-1], hi left out or 0 -/
def revCut {α : Type} (xs : List α) (hi : Option Int) : List α := if hi = none then xs.reverse else (xs.drop 1).reverse
theorem rev_pick (xs : Array Value) (hi : Option Int) (hh : hi = none ∨ hi = some 0) :
    ((List.range (Builtin.Slice.slicePlaces (Builtin.Slice.sliceAdjust none hi (-1) (xs.size : Int)).1 (Builtin.Slice.sliceAdjust none hi (-1) (xs.size : Int)).2 (-1))).filterMap fun (m : Nat) => xs[((Builtin.Slice.sliceAdjust none hi (-1) (xs.size : Int)).1 + (m : Int) * (-1)).toNat]?).toArray = (revCut xs.toList hi).toArray := by
  have h1 : (Builtin.Slice.sliceAdjust none hi (-1) (xs.size : Int)).1 = (xs.size : Int) - 1 := by rcases hh with rfl | rfl <;> rfl
  have key : ∀ n, n ≤ xs.size → (List.range n).filterMap (fun (m : Nat) => xs[((xs.size : Int) - 1 + (m : Int) * (-1)).toNat]?) = (xs.toList.drop (xs.size - n)).reverse := by
    intro n
    induction n with
    | zero =>
      intro _
      rw [Nat.sub_zero, List.drop_eq_nil_of_le (by simp)]
      rfl
    | succ n ih =>
      intro hn
      have hlt : xs.size - (n + 1) < xs.toList.length := by simp; omega
      rw [List.range_succ, List.filterMap_append, ih (by omega), List.drop_eq_getElem_cons hlt, List.reverse_cons, show xs.size - (n + 1) + 1 = xs.size - n by omega]
      congr 1
      have e : ((xs.size : Int) - 1 + (n : Int) * (-1)).toNat = xs.size - (n + 1) := by omega
      have hlt2 : xs.size - (n + 1) < xs.size := by simpa using hlt
      show List.filterMap (fun (m : Nat) => xs[((xs.size : Int) - 1 + (m : Int) * (-1)).toNat]?) [n] = _
      rw [List.filterMap_cons, e, Array.getElem?_eq_getElem hlt2]
      rfl
  rw [h1]
  rcases hh with rfl | rfl
  · have h2 : (Builtin.Slice.sliceAdjust none none (-1) (xs.size : Int)).2 = -1 := rfl
    have h3 : Builtin.Slice.slicePlaces ((xs.size : Int) - 1) (-1) (-1) = xs.size := by
      unfold Builtin.Slice.slicePlaces
      rw [if_neg (by decide)]
      split
      · rw [Int.neg_neg, Int.ediv_one]; omega
      · omega
    rw [h2, h3, key _ (Nat.le_refl _), Nat.sub_self]
    rfl
  · have h2 : (Builtin.Slice.sliceAdjust none (some 0) (-1) (xs.size : Int)).2 = min 0 ((xs.size : Int) - 1) := rfl
    have h3 : Builtin.Slice.slicePlaces ((xs.size : Int) - 1) (min 0 ((xs.size : Int) - 1)) (-1) = xs.size - 1 := by
      unfold Builtin.Slice.slicePlaces
      rw [if_neg (by decide)]
      split
      · rw [Int.neg_neg, Int.ediv_one]; omega
      · omega
    rw [h2, h3, key _ (by omega)]
    by_cases h0 : xs.size = 0
    · have : xs.toList = [] := by simpa using h0
      simp [revCut, this]
    · rw [show xs.size - (xs.size - 1) = 1 by omega]
      rfl
theorem sliceApplied_rev {sl : Addr} {vl vu vs : Value} {hi : Option Int} {n : Nat} {Q : Int × Int × Nat → Shared → Prop} (hs : s.heap.IsSliceOf sl vl vu vs) (pl : IsPart vl none) (pu : IsPart vu hi) (pst : IsPart vs (some (-1)))
    (h : Q ((Builtin.Slice.sliceAdjust none hi (-1) (n : Int)).1, -1, Builtin.Slice.slicePlaces (Builtin.Slice.sliceAdjust none hi (-1) (n : Int)).1 (Builtin.Slice.sliceAdjust none hi (-1) (n : Int)).2 (-1)) s) : wpAny (model prog w) A (Builtin.Slice.sliceApplied (.ref sl) (pure (n : Int))) Q E s := by
  obtain ⟨os, hos, hcs, hds⟩ := id hs
  unfold Builtin.Slice.sliceApplied Builtin.Slice.sliceFields
  refine wpAny_bind (wpAny_bind (wpAny_field hos hds (x := vl) rfl (wpAny_bind (wpAny_field hos hds (x := vu) rfl (wpAny_bind (wpAny_field hos hds (x := vs) rfl (wpAny_pure ?_)))))))
  refine wpAny_bind (HT.slicePart_ pst ?_)
  show wpAny _ _ (if ((-1 : Int) == 0) = true then _ else _) _ _ s
  rw [if_neg (by decide)]
  refine wpAny_bind (HT.slicePart_ pl (wpAny_bind (HT.slicePart_ pu (wpAny_bind (wpAny_pure ?_)))))
  show wpAny _ _ (match Builtin.Slice.sliceAdjust none hi (-1) (n : Int) with | (lo, hi) => pure (lo, (-1 : Int), Builtin.Slice.slicePlaces lo hi (-1))) _ _ s
  exact wpAny_pure h
theorem getItem_tuple_rev {t sl : Addr} {items : Array Value} {vl vu vs : Value} {hi : Option Int} {Q : Value → Shared → Prop} (ht : IsTup s.heap t items) (hs : s.heap.IsSliceOf sl vl vu vs) (pl : IsPart vl none) (pu : IsPart vu hi) (pst : IsPart vs (some (-1))) (hh : hi = none ∨ hi = some 0)
    (h : Q (.ref s.heap.objs.size) { s with heap := s.heap.push { cls := .type "tuple", data := .seq (revCut items.toList hi).toArray } })
    (hsz : items.size ≤ sizeLine) : wpAny (model prog w) A (getItem (.ref t) (.ref sl)) Q E s := by
  have htake : sizeOk (.seq (revCut items.toList hi).toArray) := by
    show (revCut items.toList hi).toArray.size ≤ sizeLine
    rw [List.size_toArray]
    rcases hh with rfl | rfl
    · show (items.toList.reverse).length ≤ _
      rw [List.length_reverse, Array.length_toList]
      exact hsz
    · show ((items.toList.drop 1).reverse).length ≤ _
      rw [List.length_reverse, List.length_drop, Array.length_toList]
      omega
  obtain ⟨os, hos, hcs, hds⟩ := id hs
  have hTs : s.TypeIs (.ref sl) "slice" := ⟨os, hos, hcs⟩
  unfold getItem
  try with_reducible refine wpAny_holding ?_
  first | refine wpAny_bind (wpAny_pure ?_) | skip
  refine wpAny_bind (wpAny_sequenceKey ht.typeIs (by decide) ?_)
  refine wpAny_bind (wpAny_callSpecial?_slot (name := Str.ofString "__getitem__") ht.typeIs PyProof.Rows.slot_tuple_getitem
    (wpAny_call_entry PyProof.Rows.slot_tuple_getitem ht.typeIs entry_tuple_getitem ?_ (args_tuple_getitem _ _)))
  show wpAny _ _ (Builtin.Tuple.tupleItemsOf (.ref t) >>= _) _ _ s
  refine wpAny_bind (tupleItemsOf_ ht ?_)
  refine wpAny_bind (wpAny_typeOf hTs ?_)
  rw [if_pos (by decide)]
  refine wpAny_bind (sliceApplied_rev hs pl pu pst ?_)
  have hno : ¬ (((Builtin.Slice.sliceAdjust none hi (-1) (items.size : Int)).1 == 0 && (-1 : Int) == 1 && Builtin.Slice.slicePlaces (Builtin.Slice.sliceAdjust none hi (-1) (items.size : Int)).1 (Builtin.Slice.sliceAdjust none hi (-1) (items.size : Int)).2 (-1) == items.size) = true) := by
    intro q
    rw [Bool.and_eq_true, Bool.and_eq_true] at q
    exact absurd q.1.2 (by decide)
  show wpAny _ _ (if (((Builtin.Slice.sliceAdjust none hi (-1) (items.size : Int)).1 == 0 && (-1 : Int) == 1 && Builtin.Slice.slicePlaces (Builtin.Slice.sliceAdjust none hi (-1) (items.size : Int)).1 (Builtin.Slice.sliceAdjust none hi (-1) (items.size : Int)).2 (-1) == items.size) = true) then _ else _) _ _ s
  rw [if_neg hno, rev_pick items hi hh]
  first
    | exact wpAny_bind (m := Builtin.Tuple.tupleExact _) (wpAny_newObj_type (wpAny_pure ⟨_, rfl, wpAny_pure h⟩) htake)
    | exact wpAny_bind (m := Builtin.Tuple.tupleExact _) (wpAny_newObj_type (wpAny_bind (wpAny_pure (wpAny_pure ⟨_, rfl, wpAny_pure h⟩))) htake)
    | exact wpAny_bind (wpAny_bind (m := Builtin.Tuple.tupleExact _) (wpAny_newObj_type (wpAny_pure (wpAny_pure ⟨_, rfl, wpAny_pure h⟩)) htake))
    | exact wpAny_bind (wpAny_bind (m := Builtin.Tuple.tupleExact _) (wpAny_newObj_type (wpAny_pure ⟨_, rfl, wpAny_pure h⟩) htake))
end

section
variable {C : DC} {ρ ρ' : Rho} {σ : L2.St} {H H' : Hp} {e a b c : Expr} {es : List Expr} {pos p p2 apos cpos : Pos} {k : EV → Rho → Prop} {kd : PyData → Prop} {kl : List PyData → Rho → Prop}
/-! ### slices -/
def WO (X : Cx) (oe : Option Expr) : TO := fun σ H Q => ∀ pins s, Inv X pins σ H s → wpAny (model X.prog X.w) X.A (evalPart oe X.env) (fun u s' => ∃ o H', Inv X pins σ H' s' ∧ IsPart u o ∧ Q o H') X.xe s
theorem WO.po {X : Cx} {oe : Option Expr} : PO X oe (WO X oe) := ⟨fun pins s _ _ _ I h => h pins s I⟩
theorem WO.of {X : Cx} {oe : Option Expr} {t : TO} {Q : Option Int → Hp → Prop} (h : PO X oe t) (q : t σ H Q) : WO X oe σ H Q := fun pins s I => h.run pins s σ H Q I q
def DO (C : DC) (ρ : Rho) (oe : Option Expr) (k : Option Int → Rho → Prop) : Prop :=
  ∀ σ H (Q : Option Int → Hp → Prop), C.Rs ρ σ H → (∀ o ρ' H', KT H H' → C.Rs ρ' σ H' → k o ρ' → Q o H') → WO C.X oe σ H Q
theorem do_none {k : Option Int → Rho → Prop} (q : k none ρ) : DO C ρ none k := fun σ H Q r g => WO.of po_none (g none ρ H (KT.refl H) r q)
theorem do_some {k : Option Int → Rho → Prop} (h : DE C ρ e fun ev ρ1 => ∃ i : Int, ev = .dat (.int i) ∧ k (some i) ρ1) : DO C ρ (some e) k := fun σ H Q r g => by
  refine WO.of (po_some WE.pe) ?_
  refine h σ H _ r fun v ev ρ1 H1 k1 r1 o1 h1 => ?_
  obtain ⟨i, rfl, hk⟩ := h1
  cases (Mp.rp o1).int
  exact ⟨i, rfl, g _ ρ1 H1 k1 r1 hk⟩
def cutD (xs : List PyData) (lo hi : Option Int) : List PyData := (xs.drop (HT.sIx xs.length 0 lo)).take (HT.sIx xs.length xs.length hi - HT.sIx xs.length 0 lo)
theorem cut_rpl {K : PySem.W.Frag} {vs : List V} {ds : List PyData} (h : RpL K H vs ds) (lo hi : Option Int) : RpL K H (cutV vs lo hi) (cutD ds lo hi) := by
  unfold cutV cutD
  rw [h.length]
  exact (h.drop _).take _
theorem de_slT {lo hi : Option Expr} (h : DE C ρ e fun ev ρ1 => DO C ρ1 lo fun l ρ2 => DO C ρ2 hi fun u ρ3 => ∃ ds, ev = .dat (.tuple ds) ∧ k (.dat (.tuple (cutD ds l u))) ρ3) : DE C ρ (.Subscript e (.Slice lo hi none p2) pos) k := fun σ H Q r g => by
  refine WE.of (pe_slice sl_tupA WE.pe WO.po WO.po) ?_
  refine h σ H _ r fun v ev ρ1 H1 k1 r1 o1 h1 => ?_
  refine h1 σ H1 _ r1 fun l ρ2 H2 k2 r2 h2 => ?_
  refine h2 σ H2 _ r2 fun u ρ3 H3 k3 r3 h3 => ?_
  obtain ⟨ds, rfl, hk⟩ := h3
  obtain ⟨t, vs, rfl, e1, e2⟩ := (Mp.rp (Rp.kt (k2.trans k3) o1)).tup
  have hl := e2.length
  refine ⟨t, vs, rfl, e1, fun hw => ?_, fun hw p np => ?_⟩
  · have e : cutD ds l u = ds := by
      unfold cutD
      rw [← hl, hw.1, hw.2, List.drop_zero, Nat.sub_zero, List.take_of_length_le (by rw [hl]; exact Nat.le_refl _)]
    rw [e] at hk
    exact g _ (.dat (.tuple ds)) ρ3 H3 ((k1.trans k2).trans k3) r3 (Rp.tup e1 e2) hk
  · have ex : Ex H3 (L2.upd H3 p (.tup (cutV vs l u))) := Ex.new np
    exact g _ (.dat (.tuple (cutD ds l u))) ρ3 _ (((k1.trans k2).trans k3).trans ex.kt) (r3.ex ex) (Rp.tup (SqT.of upd_same) ((cut_rpl e2 l u).kt ex.kt)) hk
theorem dl_slL {lo hi : Option Expr} (h : DE C ρ e fun ev ρ1 => DO C ρ1 lo fun l ρ2 => DO C ρ2 hi fun u ρ3 => ∃ ds, DatOf ρ3 ev (.list ds) ∧ kl (cutD ds l u) ρ3) : DL C ρ (.Subscript e (.Slice lo hi none p2) pos) kl := fun σ H Q r g => by
  refine WE.of (pe_slice sl_list WE.pe WO.po WO.po) ?_
  refine h σ H _ r fun v ev ρ1 H1 k1 r1 o1 h1 => ?_
  refine h1 σ H1 _ r1 fun l ρ2 H2 k2 r2 h2 => ?_
  refine h2 σ H2 _ r2 fun u ρ3 H3 k3 r3 h3 => ?_
  obtain ⟨ds, hd, hk⟩ := h3
  obtain ⟨t, vs, rfl, e1, e2⟩ := (hd.mp r3 (o1.kt (k2.trans k3))).lst
  refine ⟨t, vs, rfl, e1, fun p np => ?_⟩
  have ex : Ex H3 (L2.upd H3 p (.lst (cutV vs l u))) := Ex.new np
  exact g p _ _ ρ3 _ (((k1.trans k2).trans k3).trans ex.kt) (r3.ex ex) (New.of_none r3 np) upd_same ((cut_rpl e2 l u).kt ex.kt) hk
theorem de_slS {lo hi : Option Expr} (h : DE C ρ e fun ev ρ1 => DO C ρ1 lo fun l ρ2 => DO C ρ2 hi fun u ρ3 => ∃ z : Str, ev = .dat (.str z) ∧ z.length ≤ sizeLine ∧ k (.dat (.str (cutS z l u))) ρ3) : DE C ρ (.Subscript e (.Slice lo hi none p2) pos) k := fun σ H Q r g => by
  refine WE.of (pe_slice sl_str WE.pe WO.po WO.po) ?_
  refine h σ H _ r fun v ev ρ1 H1 k1 r1 o1 h1 => ?_
  refine h1 σ H1 _ r1 fun l ρ2 H2 k2 r2 h2 => ?_
  refine h2 σ H2 _ r2 fun u ρ3 H3 k3 r3 h3 => ?_
  obtain ⟨z, rfl, hz, hk⟩ := h3
  cases (Mp.rp o1).str
  exact ⟨z, rfl, hz, g _ (.dat (.str _)) ρ3 H3 ((k1.trans k2).trans k3) r3 (Rp.str _) hk⟩
/-- t[:0:-1], t[::-1] of a tuple -/
def tRevT (K : PySem.W.Frag) (te : TE) (th : TO) : TE := fun σ H Q => te σ H fun x H1 => th σ H1 fun u H2 => ∃ a xs, x = .ref a ∧ SqT K H2 a xs ∧ (u = none ∨ u = some 0) ∧ ∀ p, H2 p = none → Q (.ref p) (L2.upd H2 p (.tup (revCut xs u)))
theorem pe_revT {X : Cx} {te : TE} {th : TO} {hi : Option Expr} {kk : Nat} {p1 p3 p4 : Pos} (he : PE X e te) (hh : PO X hi th) : PE X (.Subscript e (.Slice none hi (some (.UnaryOp .USub (.Constant (.int 1) kk p1) p3)) p4) pos) (tRevT X.K te th) := by
  refine ⟨fun pins s σ H Q I h => ?_⟩
  refine Subscript_ (thn (he.run pins s σ H _ I h) fun v s1 ⟨x, H1, I1, r1, q1⟩ => ?_)
  have hst : PO X (some (.UnaryOp .USub (.Constant (.int 1) kk p1) p3)) (tPart (tUn (rU fun i => .int (-i)) (tC (.int 1)))) := po_some (pe_un un_neg pe_int)
  refine wpAny_Slice (thn (po_none.run pins s1 σ H1 (fun o H2 => o = none ∧ H2 = H1) I1 ⟨rfl, rfl⟩) fun vl s2 ⟨l, H2, I2, pl, el, e2⟩ => ?_)
  subst el e2
  refine thn (hh.run pins s2 σ H2 _ I2 q1) fun vu s3 ⟨u, H3, I3, pu, q3⟩ => ?_
  obtain ⟨a, xs, ex, hx, hu, q⟩ := q3
  subst ex
  cases r1
  refine thn (hst.run pins s3 σ H3 (fun o H4 => o = some (-1) ∧ H4 = H3) I3 ⟨1, rfl, -1, rfl, rfl, rfl⟩) fun vs s4 ⟨o, H4, I4, ps, eo, e4⟩ => ?_
  subst eo e4
  have I5 : Inv X pins σ H4 { s4 with heap := s4.heap.push { cls := .type "slice", data := .fields #[vl, vu, vs] } } := I4.kept (t' := s4.toks) fun b ob q => Heap.get?_push_of_some _ q
  obtain ⟨its, r, ht, hz⟩ := I5.tuple hx
  have hlen := r.length
  show wpAny (model X.prog X.w) X.A (subscriptTail e (.Slice none hi (some (.UnaryOp .USub (.Constant (.int 1) kk p1) p3)) p4) (.ref a) (.ref s4.heap.objs.size)) (EP X pins σ Q) X.xe { s4 with heap := s4.heap.push { cls := .type "slice", data := .fields #[vl, vu, vs] } }
  refine tail_any (ops := [.ref a, .ref s4.heap.objs.size]) ht.typeIs (PyProof.Rows.slot_tuple_getitem.lookup) ?_ (by with_unfolding_all rfl)
  refine getItem_tuple_rev ht (Heap.IsSliceOf.new _ vl vu vs) pl pu ps hu ?_ (by rw [List.size_toArray]; omega)
  have hrv : Vals (revCut xs u) (revCut its u) := by
    rcases hu with rfl | rfl
    · exact r.reverse
    · exact (r.drop 1).reverse
  refine ⟨.ref _, _, I5.laid (t' := s4.toks) (o := .tup (revCut xs u)) (fun b ob q => Heap.get?_push_of_some _ q) (Nat.le_refl _) ?_, rfl, q _ (I5.hok.fresh (Nat.le_refl _))⟩
  refine ⟨?_, _, hrv, ⟨_, Heap.get?_push_size _ rfl, rfl, _, rfl⟩⟩
  rcases hu with rfl | rfl
  · show (xs.reverse).length ≤ _
    rw [List.length_reverse]; exact hz
  · show ((xs.drop 1).reverse).length ≤ _
    rw [List.length_reverse, List.length_drop]; omega
theorem de_revT {hi : Option Expr} {kk : Nat} {p1 p3 p4 : Pos} (h : DE C ρ e fun ev ρ1 => DO C ρ1 hi fun u ρ2 => ∃ ds, ev = .dat (.tuple ds) ∧ (u = none ∨ u = some 0) ∧ k (.dat (.tuple (revCut ds u))) ρ2) : DE C ρ (.Subscript e (.Slice none hi (some (.UnaryOp .USub (.Constant (.int 1) kk p1) p3)) p4) pos) k := fun σ H Q r g => by
  refine WE.of (pe_revT WE.pe WO.po) ?_
  refine h σ H _ r fun v ev ρ1 H1 k1 r1 o1 h1 => ?_
  refine h1 σ H1 _ r1 fun u ρ2 H2 k2 r2 h2 => ?_
  obtain ⟨ds, rfl, hu, hk⟩ := h2
  obtain ⟨t, vs, rfl, e1, e2⟩ := (Mp.rp (Rp.kt k2 o1)).tup
  refine ⟨t, vs, rfl, e1, hu, fun p np => ?_⟩
  have ex : Ex H2 (L2.upd H2 p (.tup (revCut vs u))) := Ex.new np
  have hrv : C.RpL H2 (revCut vs u) (revCut ds u) := by
    rcases hu with rfl | rfl
    · exact e2.reverse
    · exact (e2.drop 1).reverse
  exact g _ (.dat (.tuple (revCut ds u))) ρ2 _ ((k1.trans k2).trans ex.kt) (r2.ex ex) (Rp.tup (SqT.of upd_same) (hrv.kt ex.kt)) hk
end
end DW
namespace DW
open PySem L2
section
variable {C : DC} {ρ ρ' : Rho} {σ : L2.St} {H H' : Hp} {e a b c iter elt : Expr} {es : List Expr} {pos p p2 apos cpos px py : Pos} {k : EV → Rho → Prop} {kd : PyData → Prop} {kl : List PyData → Rho → Prop} {nx : Rho → Prop} {rt : RV → Prop} {bk ct : Rho → Prop} {st : Stmt} {sts : List Stmt} {kt' : Bool → Rho → Prop}

/-! ### arguments, one after another -/
def DAd (C : DC) (ρ : Rho) (es : List Expr) (k : List PyData → Rho → Prop) : Prop :=
  ∀ σ H (Q : List V → Hp → Prop), C.Rs ρ σ H → (∀ vs ds ρ' H', KT H H' → C.Rs ρ' σ H' → C.RpL H' vs ds → ds.length = es.length → k ds ρ' → Q vs H') → WA C.X es σ H Q
theorem dad_nil (q : kl [] ρ) : DAd C ρ [] kl := fun σ H Q r g => WA.of pa_nil (g [] [] ρ H (KT.refl H) r .nil rfl q)
theorem dad_cons (h : DE C ρ e fun ev ρ1 => ∃ d, ev = .dat d ∧ DAd C ρ1 es fun ds ρ2 => kl (d :: ds) ρ2) (hs : starEach (e :: es) C.X.env = (false, eval e C.X.env) :: starEach es C.X.env := by rfl) : DAd C ρ (e :: es) kl := fun σ H Q r g => by
  refine WA.of (pa_cons WE.pe WA.pa hs) ?_
  refine h σ H _ r fun v ev ρ1 H1 k1 r1 o1 h1 => ?_
  obtain ⟨d, rfl, h1⟩ := h1
  refine h1 σ H1 _ r1 fun vs ds ρ2 H2 k2 r2 o2 hl h2 => ?_
  exact g _ (d :: ds) ρ2 H2 (k1.trans k2) r2 (.cons (Rp.kt k2 o1) o2) (by rw [List.length_cons, List.length_cons, hl]) h2
theorem de_tuple {x1} (h : DAd C ρ es fun ds ρ1 => k (.dat (.tuple ds)) ρ1) (hz : es.length ≤ sizeLine := by decide) : DE C ρ (.Tuple es x1 pos) k := fun σ H Q r g => by
  refine WE.of (pe_tup WA.pa) ?_
  refine h σ H _ r fun vs ds ρ1 H1 k1 r1 o1 hl hk => ?_
  refine ⟨by rw [o1.length, hl]; exact hz, fun p np => ?_⟩
  have ex : Ex H1 (L2.upd H1 p (.tup vs)) := Ex.new np
  exact g _ (.dat (.tuple ds)) ρ1 _ (k1.trans ex.kt) (r1.ex ex) (Rp.tup (SqT.of upd_same) (o1.kt ex.kt)) hk
theorem dl_list (h : DAd C ρ es fun ds ρ1 => kl ds ρ1) (hz : es.length ≤ sizeLine := by decide) : DL C ρ (.List es pos) kl := fun σ H Q r g => by
  refine WE.of (pe_lst WA.pa) ?_
  refine h σ H _ r fun vs ds ρ1 H1 k1 r1 o1 hl hk => ?_
  refine ⟨by rw [o1.length, hl]; exact hz, fun p np => ?_⟩
  have ex : Ex H1 (L2.upd H1 p (.lst vs)) := Ex.new np
  exact g p vs ds ρ1 _ (k1.trans ex.kt) (r1.ex ex) (New.of_none r1 np) upd_same (o1.kt ex.kt) hk
theorem ArgsOk.kt {K : PySem.W.Frag} {dr : Option Addr} (q : KT H H') : ∀ {vs : List V} {avs : List AV}, ArgsOk K H dr vs avs → ArgsOk K H' dr vs avs
  | _, _, .nil => .nil
  | _, _, .dat h t => .dat (h.kt q) (ArgsOk.kt q t)
  | _, _, .drw h t => .drw h (ArgsOk.kt q t)
  | _, _, .scr h t => .scr (h.kt q) (ArgsOk.kt q t)
def DAv (C : DC) (ρ : Rho) (es : List Expr) (k : List AV → Rho → Prop) : Prop :=
  ∀ σ H (Q : List V → Hp → Prop), C.Rs ρ σ H → (∀ vs avs ρ' H', KT H H' → C.Rs ρ' σ H' → ArgsOk C.X.K H' C.dr vs avs → k avs ρ' → Q vs H') → WA C.X es σ H Q
variable {kv : List AV → Rho → Prop}
theorem dav_nil (q : kv [] ρ) : DAv C ρ [] kv := fun σ H Q r g => WA.of pa_nil (g [] [] ρ H (KT.refl H) r .nil q)
theorem dav_cons (h : DE C ρ e fun ev ρ1 => ∃ av, (match ev with | .dat d => av = .dat d | .ali i => (ρ1[i]? = some .drw ∧ av = .drw) ∨ ∃ ns, ρ1[i]? = some (.scr ns) ∧ av = .scr ns) ∧ DAv C ρ1 es fun avs ρ2 => kv (av :: avs) ρ2) (hs : starEach (e :: es) C.X.env = (false, eval e C.X.env) :: starEach es C.X.env := by rfl) : DAv C ρ (e :: es) kv := fun σ H Q r g => by
  refine WA.of (pa_cons WE.pe WA.pa hs) ?_
  refine h σ H _ r fun v ev ρ1 H1 k1 r1 o1 h1 => ?_
  obtain ⟨av, ha, h1⟩ := h1
  refine h1 σ H1 _ r1 fun vs avs ρ2 H2 k2 r2 o2 h2 => ?_
  refine g _ (av :: avs) ρ2 H2 (k1.trans k2) r2 ?_ h2
  cases ev with
  | dat d =>
    cases (show av = .dat d from ha)
    exact .dat (Rp.kt k2 o1) o2
  | ali i =>
    rcases ha with ⟨hi, rfl⟩ | ⟨ns, hi, rfl⟩
    · obtain ⟨a, h1, h2⟩ := Rs.drw r1 hi
      have ee := (show σ[_]? = some (some _) from o1).symm.trans h1
      cases ee
      exact .drw h2 o2
    · obtain ⟨a, h1, h2⟩ := Rs.scr r1 hi
      have ee := (show σ[_]? = some (some _) from o1).symm.trans h1
      cases ee
      exact .scr (h2.kt k2) o2
theorem callv_core {x : Str} {fs : FS} {Q : VK} (F : Cal C.X x fs) (hg : Gl C.X x) (r : C.Rs ρ σ H) (h : DAv C ρ (e :: es) fun avs ρ1 => ∃ R, fs avs R ∧ ∀ v rv H2, KT H H2 → C.Rs ρ1 σ H2 → (∀ p vs, rv = .lst vs → v = .ref p → New C.H0 C.dr ρ1 σ p) → RvOk C.X.K (fun _ => none) none H2 v rv → R rv → Q v H2)
    (hdb : (x == ("__debug__" : Str)) = false) (he : starEach (e :: es) C.X.env = (false, eval e C.X.env) :: starEach es C.X.env) (hpl : (backTo pos (starEach es C.X.env)).any (·.1) = false) :
    WE C.X (.Call (.Name x p) (e :: es) [] pos) σ H Q := by
  obtain ⟨kk, f, fd, ps, F, hr, hgd, hm, hk, hb⟩ := F.ex
  refine WE.of (pe_callG F hr hgd hg hm hk hb WA.pa hdb he hpl) ?_
  refine h σ H _ r fun vs avs ρ1 H1 k1 r1 o1 h1 => ?_
  obtain ⟨R, hf, hq⟩ := h1
  refine ⟨C.dr, avs, R, r1.fr.drw, o1, hf, fun v rv H2 fr ok hR => ?_⟩
  have r2 := rs_call r1 fr
  refine hq v rv H2 (k1.trans fr.kt) r2 (fun p vs hrv hv => ?_) ?_ hR
  · subst hrv
    obtain ⟨p', vs', e1, e2, _⟩ := ok
    rw [hv] at e1
    cases e1
    exact New.of_none r1 e2
  · cases rv with
    | dat d => exact ok
    | lst ds =>
      obtain ⟨p', vs', e1, e2, _, e3, e4⟩ := ok
      exact ⟨p', vs', e1, rfl, (fun z => nomatch z), e3, e4⟩
/-- f(e, ..), what it gives kept as data -/
theorem de_f {x : Str} {fs : FS} (F : Cal C.X x fs) (h : DAv C ρ (e :: es) fun avs ρ1 => fs avs fun rv => k (.dat rv.data) ρ1) (hg : Gl C.X x := by rfl)
    (hdb : (x == ("__debug__" : Str)) = false := by decide) (he : starEach (e :: es) C.X.env = (false, eval e C.X.env) :: starEach es C.X.env := by rfl) (hpl : (backTo pos (starEach es C.X.env)).any (·.1) = false := by rfl) :
    DE C ρ (.Call (.Name x p) (e :: es) [] pos) k := fun σ H Q r g => by
  refine (callv_core (Q := fun v H' => ∃ ρ1 rv, KT H H' ∧ C.Rs ρ1 σ H' ∧ (∀ p vs, rv = .lst vs → v = .ref p → New C.H0 C.dr ρ1 σ p) ∧ RvOk C.X.K (fun _ => none) none H' v rv ∧ k (.dat rv.data) ρ1) F hg r ?_ hdb he hpl).thn ?_
  · intro σ' H1 Q' r' g'
    exact h σ' H1 Q' r' fun vs avs ρ1 H2 k2 r2 o2 h2 => g' vs avs ρ1 H2 k2 r2 o2 ⟨_, h2, fun v rv H2 kt r2 n ok hk => ⟨ρ1, rv, kt, r2, n, ok, hk⟩⟩
  · intro pins s v u H' I rel hq
    obtain ⟨ρ1, rv, kt, r1, n, ok, hk⟩ := hq
    cases rv with
    | dat d => exact ⟨v, H', I, rel, g v (.dat d) ρ1 H' kt r1 ok hk⟩
    | lst ds =>
      obtain ⟨p', vs, rfl, _, _, h1, h2⟩ := ok
      obtain ⟨o, I'⟩ := freeze I h1 (by intro xs z; cases z) (by intro o w z; cases z) (by intro ps z; cases z) (by intro a z; cases z)
      refine ⟨_, _, I', rel, g _ (.dat (.list ds)) ρ1 _ (kt.trans (kt_frz h1)) (Rs.frz r1 (n p' ds rfl rfl) h1) ?_ hk⟩
      exact Rp.lst ⟨o, upd_same⟩ (h2.kt (kt_frz h1))
theorem dl_f {x : Str} {fs : FS} (F : Cal C.X x fs) (h : DAv C ρ (e :: es) fun avs ρ1 => fs avs fun rv => ∃ ds, rv = .lst ds ∧ kl ds ρ1) (hg : Gl C.X x := by rfl)
    (hdb : (x == ("__debug__" : Str)) = false := by decide) (he : starEach (e :: es) C.X.env = (false, eval e C.X.env) :: starEach es C.X.env := by rfl) (hpl : (backTo pos (starEach es C.X.env)).any (·.1) = false := by rfl) :
    DL C ρ (.Call (.Name x p) (e :: es) [] pos) kl := fun σ H Q r g => by
  refine callv_core F hg r ?_ hdb he hpl
  intro σ' H1 Q' r' g'
  refine h σ' H1 Q' r' fun vs avs ρ1 H2 k2 r2 o2 h2 => g' vs avs ρ1 H2 k2 r2 o2 ?_
  refine ⟨_, h2, fun v rv H2 kt r2 n ok hk => ?_⟩
  obtain ⟨ds, rfl, hk⟩ := hk
  obtain ⟨p', vs, rfl, _, _, h1, h2⟩ := ok
  exact g p' vs ds ρ1 H2 kt r2 (n p' ds rfl rfl) h1 h2 hk

/-! ### built-ins with one argument, with two -/
theorem de_b1 {x : Str} {id : String} (hv : bootBuiltins x = some (.builtin id)) (hm : C.X.mg x = none) (h : DE C ρ e fun ev ρ1 => ∃ d, DatOf ρ1 ev d ∧ DCall C.X (.builtin id) [d] fun d => k (.dat d) ρ1) (hg : Gl C.X x := by rfl)
    (hn : x ≠ "__name__" := by decide) (hdb : (x == ("__debug__" : Str)) = false := by decide) (he : starEach [e] C.X.env = (false, eval e C.X.env) :: starEach [] C.X.env := by rfl) (hpl : (backTo pos (starEach [] C.X.env)).any (·.1) = false := by rfl) :
    DE C ρ (.Call (.Name x p) [e] [] pos) k :=
  de_callB hv hm hg (da_cons (h.mono fun ev ρ1 ⟨d, h1, h2⟩ => da_nil ⟨[d], .cons h1 .nil, h2⟩) he) hn hdb he hpl
theorem de_t1 {x : Str} {id : String} (hv : bootBuiltins x = some (.type id)) (hm : C.X.mg x = none) (h : DE C ρ e fun ev ρ1 => ∃ d, DatOf ρ1 ev d ∧ DCall C.X (.type id) [d] fun d => k (.dat d) ρ1) (hg : Gl C.X x := by rfl)
    (hn : x ≠ "__name__" := by decide) (hdb : (x == ("__debug__" : Str)) = false := by decide) (he : starEach [e] C.X.env = (false, eval e C.X.env) :: starEach [] C.X.env := by rfl) (hpl : (backTo pos (starEach [] C.X.env)).any (·.1) = false := by rfl) :
    DE C ρ (.Call (.Name x p) [e] [] pos) k :=
  de_callT hv hm hg (da_cons (h.mono fun ev ρ1 ⟨d, h1, h2⟩ => da_nil ⟨[d], .cons h1 .nil, h2⟩) he) hn hdb he hpl
theorem dl_t1 {x : Str} {id : String} (hv : bootBuiltins x = some (.type id)) (hm : C.X.mg x = none) (h : DE C ρ e fun ev ρ1 => ∃ d, DatOf ρ1 ev d ∧ DCallL C.X (.type id) [d] fun d => kl d ρ1) (hg : Gl C.X x := by rfl)
    (hn : x ≠ "__name__" := by decide) (hdb : (x == ("__debug__" : Str)) = false := by decide) (he : starEach [e] C.X.env = (false, eval e C.X.env) :: starEach [] C.X.env := by rfl) (hpl : (backTo pos (starEach [] C.X.env)).any (·.1) = false := by rfl) :
    DL C ρ (.Call (.Name x p) [e] [] pos) kl :=
  dl_callT hv hm hg (da_cons (h.mono fun ev ρ1 ⟨d, h1, h2⟩ => da_nil ⟨[d], .cons h1 .nil, h2⟩) he) hn hdb he hpl
theorem de_b2 {x : Str} {id : String} (hv : bootBuiltins x = some (.builtin id)) (hm : C.X.mg x = none) (h : DE C ρ a fun ev ρ1 => DE C ρ1 b fun ev2 ρ2 => ∃ d d', DatOf ρ2 ev d ∧ DatOf ρ2 ev2 d' ∧ DCall C.X (.builtin id) [d, d'] fun d => k (.dat d) ρ2) (hg : Gl C.X x := by rfl)
    (hn : x ≠ "__name__" := by decide) (hdb : (x == ("__debug__" : Str)) = false := by decide) (he : starEach [a, b] C.X.env = (false, eval a C.X.env) :: starEach [b] C.X.env := by rfl) (he2 : starEach [b] C.X.env = (false, eval b C.X.env) :: starEach [] C.X.env := by rfl) (hpl : (backTo pos (starEach [b] C.X.env)).any (·.1) = false := by rfl) :
    DE C ρ (.Call (.Name x p) [a, b] [] pos) k :=
  de_callB hv hm hg (da_cons (h.mono fun ev ρ1 h1 => da_cons (h1.mono fun ev2 ρ2 ⟨d, d', h2, h3, h4⟩ => da_nil ⟨[d, d'], .cons h2 (.cons h3 .nil), h4⟩) he2) he) hn hdb he hpl

/-! ### repr -/
def Gd (C : DC) : Prop := C.X.A.guards = some []
end
mutual
def noList : PyData → Bool
  | .none => true
  | .bool _ => true
  | .int _ => true
  | .str _ => true
  | .list _ => false
  | .tuple ds => noLists ds
  | .dict _ => true
def noLists : List PyData → Bool
  | [] => true
  | d :: ds => noList d && noLists ds
end
section
variable {σ : L2.St} {H : Hp} {X : Cx} {pins : List (Addr × Obj)} {s : Shared}
mutual
theorem rp_readsN (I : Inv X pins σ H s) : ∀ (d : PyData) (v : V) (u : Value), noList d = true → Rp X.K H v d → RelV v u → ∃ as, Reads s.heap u d as ∧ sysModules ∉ as
  | .none, _, _, _, h, r => by
    cases h
    cases r
    exact ⟨_, Reads.none, by simp⟩
  | .bool b, _, _, _, h, r => by
    cases h
    cases r
    exact ⟨_, Reads.bool b, by simp⟩
  | .int i, _, _, _, h, r => by
    cases h
    obtain ⟨t, rfl⟩ := r
    exact ⟨_, Reads.int i t, by simp⟩
  | .str x, _, _, _, h, r => by
    cases h
    obtain ⟨t, rfl⟩ := r
    exact ⟨_, Reads.str x t, by simp⟩
  | .list ds, _, _, n, _, _ => by simp [noList] at n
  | .tuple ds, _, _, n, h, r => by
    cases h with
    | tup hs ha =>
      cases r
      obtain ⟨its, rv, ⟨o, ho, hc, m, hd⟩, _⟩ := I.tuple hs
      obtain ⟨as, hr, hn⟩ := rpl_readsN I ds _ its (by simpa [noList] using n) ha rv
      exact ⟨_, Reads.tuple ho hc hd hr, hn⟩
  | .dict kvs, _, _, _, h, r => by
    cases h with
    | @dic a o hs =>
      cases r
      obtain ⟨_, _, nsys, vs, r0, ob, es, ep, he, hc, hd, _, hes, _⟩ := (show ObjOk X.prog X.w H s.heap a (.frz o (.dK [])) from I.hok a _ hs)
      cases r0
      have hes' : es.toList = [] := List.length_eq_zero_iff.mp (by rw [hes.length]; rfl)
      refine ⟨_, Reads.dict (kvs := []) (as := []) (bs := []) he hc.1 hd (by rw [hes']; exact ReadsAll.nil) (by rw [hes']; exact ReadsAll.nil), ?_⟩
      intro z
      have : sysModules = a := by simpa using z
      rw [← this] at nsys
      exact absurd nsys (by simp)
theorem rpl_readsN (I : Inv X pins σ H s) : ∀ (ds : List PyData) (vs : List V) (us : List Value), noLists ds = true → RpL X.K H vs ds → Vals vs us → ∃ as, ReadsAll s.heap us ds as ∧ sysModules ∉ as
  | [], _, _, _, h, r => by
    cases h
    cases r
    exact ⟨_, ReadsAll.nil, by simp⟩
  | d :: ds, _, _, n, h, r => by
    have n' : noList d = true ∧ noLists ds = true := by simpa [noLists] using n
    cases h with
    | cons h1 h2 =>
      cases r with
      | cons r1 r2 =>
        obtain ⟨as, q1, m1⟩ := rp_readsN I d _ _ n'.1 h1 r1
        obtain ⟨bs, q2, m2⟩ := rpl_readsN I ds _ _ n'.2 h2 r2
        exact ⟨_, ReadsAll.cons q1 q2, by simp [m1, m2]⟩
end
end
section
variable {C : DC} {ρ ρ' : Rho} {σ : L2.St} {H H' : Hp} {e a b c iter elt : Expr} {es : List Expr} {pos p p2 apos cpos px py : Pos} {k : EV → Rho → Prop} {kd : PyData → Prop} {kl : List PyData → Rho → Prop} {nx : Rho → Prop} {rt : RV → Prop} {bk ct : Rho → Prop} {st : Stmt} {sts : List Stmt} {kt' : Bool → Rho → Prop}
theorem dc_repr {d : PyData} (hgd : Gd C) (hu : C.X.A.units + (d.depth + 1) < cLine) (hs : d.showable = true) (hnd : d.hasDict = false ∨ noList d = true) (hz : d.shown.length ≤ sizeLine) (q : kd (.str d.shown)) : DCall C.X (.builtin "repr") [d] kd := fun pins s σ H vs us Q I rv mv g => by
  obtain ⟨v, rfl, mu⟩ := mv.one
  obtain ⟨u, rfl, ru⟩ := rv.one
  have key : ∀ a, u = .ref a → wpAny (model C.X.prog C.X.w) C.X.A (call (.builtin "repr") [u]) (EP C.X pins σ Q) C.X.xe s := fun a hu' => by
    obtain ⟨as, rd, hsys⟩ : ∃ as, Reads s.heap u d as ∧ (d.hasDict = true → sysModules ∉ as) := by
      rcases hnd with hnd | hnd
      · obtain ⟨as, rd⟩ := mp_reads I mu ru
        exact ⟨as, rd, PyData.noDict_hsm hnd⟩
      · cases mu with
        | rp mu =>
          obtain ⟨as, rd, hn⟩ := rp_readsN I d v u hnd mu ru
          exact ⟨as, rd, fun _ => hn⟩
        | own _ _ => simp [noList] at hnd
    subst hu'
    exact repr_of_reads' rd hs hsys hgd hu (fun _ _ z => z) (fun h' t tk hk => ⟨.str d.shown, H, I.kept (t' := tk) hk, ⟨t, rfl⟩, g _ _ H (Ex.refl H) (.str _) q⟩) hz
  cases d with
  | none =>
    cases mu.non
    cases (show u = Value.none from ru)
    exact PySem.P.repr_of_none ⟨.str _, H, I.tok _, ⟨_, rfl⟩, g _ _ H (Ex.refl H) (.str _) (by simpa only [PyData.shown] using q)⟩
  | bool x =>
    cases mu.bl
    cases (show u = Value.bool x from ru)
    exact PySem.P.repr_of_bool ⟨.str _, H, I.tok _, ⟨_, rfl⟩, g _ _ H (Ex.refl H) (.str _) (by simpa only [PyData.shown] using q)⟩
  | int x =>
    cases mu.int
    obtain ⟨t, rfl⟩ := (show ∃ t, u = Value.int x t from ru)
    exact PySem.P.repr_of_int (by simpa [PyData.showable] using hs) ⟨.str _, H, I.tok _, ⟨_, rfl⟩, g _ _ H (Ex.refl H) (.str _) (by simpa only [PyData.shown] using q)⟩
  | str x =>
    cases mu.str
    obtain ⟨t, rfl⟩ := (show ∃ t, u = Value.str x t from ru)
    exact PySem.P.repr_of_str ⟨.str _, H, I.tok _, ⟨_, rfl⟩, g _ _ H (Ex.refl H) (.str _) (by simpa only [PyData.shown] using q)⟩ (by simpa only [PyData.shown] using hz)
  | list ds =>
    obtain ⟨l, ws, rfl, _⟩ := mu.lst
    exact key l ru
  | tuple ds =>
    obtain ⟨l, ws, rfl, _⟩ := mu.tup
    exact key l ru
  | dict ds =>
    cases mu with
    | rp mu =>
      cases mu with
      | dic h => exact key _ ru
end
end DW
namespace DW
open PySem L2
section
variable {C : DC} {ρ ρ' : Rho} {σ : L2.St} {H H' : Hp} {e a b c iter elt : Expr} {es : List Expr} {pos p p2 apos cpos px py : Pos} {k : EV → Rho → Prop} {kd : PyData → Prop} {kl : List PyData → Rho → Prop} {nx : Rho → Prop} {rt : RV → Prop} {bk ct : Rho → Prop} {st : Stmt} {sts : List Stmt} {kt' : Bool → Rho → Prop} {tg : Expr}

/-! ### classes of data -/
def isInt : PyData → Bool
  | .int _ => true
  | .bool _ => true
  | _ => false
def isBool : PyData → Bool
  | .bool _ => true
  | _ => false
def isStr : PyData → Bool
  | .str _ => true
  | _ => false
def isTup : PyData → Bool
  | .tuple _ => true
  | _ => false
def isLst : PyData → Bool
  | .list _ => true
  | _ => false
theorem kInt (d : PyData) : kitB (tyName d) "int" = some (isInt d) := by
  cases d with
  | none => exact (by decide +kernel : kitB "NoneType" "int" = some false)
  | bool _ => exact (by decide +kernel : kitB "bool" "int" = some true)
  | int _ => exact (by decide +kernel : kitB "int" "int" = some true)
  | str _ => exact (by decide +kernel : kitB "str" "int" = some false)
  | list _ => exact (by decide +kernel : kitB "list" "int" = some false)
  | tuple _ => exact (by decide +kernel : kitB "tuple" "int" = some false)
  | dict _ => exact (by decide +kernel : kitB "dict" "int" = some false)
theorem kBool (d : PyData) : kitB (tyName d) "bool" = some (isBool d) := by
  cases d with
  | none => exact (by decide +kernel : kitB "NoneType" "bool" = some false)
  | bool _ => exact (by decide +kernel : kitB "bool" "bool" = some true)
  | int _ => exact (by decide +kernel : kitB "int" "bool" = some false)
  | str _ => exact (by decide +kernel : kitB "str" "bool" = some false)
  | list _ => exact (by decide +kernel : kitB "list" "bool" = some false)
  | tuple _ => exact (by decide +kernel : kitB "tuple" "bool" = some false)
  | dict _ => exact (by decide +kernel : kitB "dict" "bool" = some false)
theorem kStr (d : PyData) : kitB (tyName d) "str" = some (isStr d) := by
  cases d with
  | none => exact (by decide +kernel : kitB "NoneType" "str" = some false)
  | bool _ => exact (by decide +kernel : kitB "bool" "str" = some false)
  | int _ => exact (by decide +kernel : kitB "int" "str" = some false)
  | str _ => exact (by decide +kernel : kitB "str" "str" = some true)
  | list _ => exact (by decide +kernel : kitB "list" "str" = some false)
  | tuple _ => exact (by decide +kernel : kitB "tuple" "str" = some false)
  | dict _ => exact (by decide +kernel : kitB "dict" "str" = some false)
theorem kTup (d : PyData) : kitB (tyName d) "tuple" = some (isTup d) := by
  cases d with
  | none => exact (by decide +kernel : kitB "NoneType" "tuple" = some false)
  | bool _ => exact (by decide +kernel : kitB "bool" "tuple" = some false)
  | int _ => exact (by decide +kernel : kitB "int" "tuple" = some false)
  | str _ => exact (by decide +kernel : kitB "str" "tuple" = some false)
  | list _ => exact (by decide +kernel : kitB "list" "tuple" = some false)
  | tuple _ => exact (by decide +kernel : kitB "tuple" "tuple" = some true)
  | dict _ => exact (by decide +kernel : kitB "dict" "tuple" = some false)
theorem kLst (d : PyData) : kitB (tyName d) "list" = some (isLst d) := by
  cases d with
  | none => exact (by decide +kernel : kitB "NoneType" "list" = some false)
  | bool _ => exact (by decide +kernel : kitB "bool" "list" = some false)
  | int _ => exact (by decide +kernel : kitB "int" "list" = some false)
  | str _ => exact (by decide +kernel : kitB "str" "list" = some false)
  | list _ => exact (by decide +kernel : kitB "list" "list" = some true)
  | tuple _ => exact (by decide +kernel : kitB "tuple" "list" = some false)
  | dict _ => exact (by decide +kernel : kitB "dict" "list" = some false)
theorem de_is {T : Str} {tn : String} {f : PyData → Bool} (hf : ∀ d, kitB (tyName d) tn = some (f d)) (hvT : bootBuiltins T = some (.type tn)) (hm : C.X.mg "isinstance" = none) (hmT : C.X.mg T = none)
    (h : DE C ρ a fun ev ρ1 => ∃ d, DatOf ρ1 ev d ∧ k (.dat (.bool (f d))) ρ1) (hg : Gl C.X "isinstance" := by rfl) (hgT : Gl C.X T := by rfl)
    (hnT : T ≠ "__name__" := by decide) (hdT : (T == ("__debug__" : Str)) = false := by decide)
    (he : starEach [a, .Name T p2] C.X.env = (false, eval a C.X.env) :: starEach [.Name T p2] C.X.env := by rfl) (he2 : starEach [.Name T p2] C.X.env = (false, eval (.Name T p2) C.X.env) :: starEach [] C.X.env := by rfl) (hpl : (backTo pos (starEach [.Name T p2] C.X.env)).any (·.1) = false := by rfl) :
    DE C ρ (.Call (.Name "isinstance" p) [a, .Name T p2] [] pos) k :=
  de_isi hm hmT hg hgT hvT (h.mono fun ev ρ1 ⟨d, h1, h2⟩ => ⟨d, _, h1, hf d, h2⟩) hnT hdT he he2 hpl
/-- isinstance(x, (S, T)) -/
theorem de_is2 {S T : Str} {sn tn : String} {f g : PyData → Bool} {x1} {p3 p4 : Pos} (hf : ∀ d, kitB (tyName d) sn = some (f d)) (hg' : ∀ d, kitB (tyName d) tn = some (g d)) (hvS : bootBuiltins S = some (.type sn)) (hvT : bootBuiltins T = some (.type tn)) (hm : C.X.mg "isinstance" = none) (hmS : C.X.mg S = none) (hmT : C.X.mg T = none)
    (h : DE C ρ a fun ev ρ1 => ∃ d, ev = .dat d ∧ k (.dat (.bool (f d || g d))) ρ1) (hg : Gl C.X "isinstance" := by rfl) (hgS : Gl C.X S := by rfl) (hgT : Gl C.X T := by rfl)
    (hnS : S ≠ "__name__" := by decide) (hdS : (S == ("__debug__" : Str)) = false := by decide) (hnT : T ≠ "__name__" := by decide) (hdT : (T == ("__debug__" : Str)) = false := by decide)
    (he : starEach [a, .Tuple [.Name S p2, .Name T p3] x1 p4] C.X.env = (false, eval a C.X.env) :: starEach [.Tuple [.Name S p2, .Name T p3] x1 p4] C.X.env := by rfl)
    (he2 : starEach [.Tuple [.Name S p2, .Name T p3] x1 p4] C.X.env = (false, eval (.Tuple [.Name S p2, .Name T p3] x1 p4) C.X.env) :: starEach [] C.X.env := by rfl) (hpl : (backTo pos (starEach [.Tuple [.Name S p2, .Name T p3] x1 p4] C.X.env)).any (·.1) = false := by rfl)
    (ht : starEach [.Name S p2, .Name T p3] C.X.env = (false, eval (.Name S p2) C.X.env) :: starEach [.Name T p3] C.X.env := by rfl) (ht2 : starEach [.Name T p3] C.X.env = (false, eval (.Name T p3) C.X.env) :: starEach [] C.X.env := by rfl) :
    DE C ρ (.Call (.Name "isinstance" p) [a, .Tuple [.Name S p2, .Name T p3] x1 p4] [] pos) k := fun σ H Q r gg => by
  refine WE.of (pe_callB call_isiT hg hm (by decide +kernel) (pa_cons WE.pe (pa_cons (pe_tup (pa_cons (pe_bltn (v := .ty sn) hgS hmS hvS rfl hnS hdS) (pa_cons (pe_bltn (v := .ty tn) hgT hmT hvT rfl hnT hdT) pa_nil ht2) ht)) pa_nil he2) he) (by decide) (by decide) he hpl) ?_
  refine h σ H _ r fun v ev ρ1 H1 k1 r1 o1 h1 => ?_
  obtain ⟨d, rfl, hk⟩ := h1
  refine ⟨by show 2 ≤ sizeLine; decide, fun q nq => ?_⟩
  have ex : Ex H1 (L2.upd H1 q (.tup [.ty sn, .ty tn])) := Ex.new nq
  have hrp : Rp C.X.K (L2.upd H1 q (.tup [.ty sn, .ty tn])) v d := Rp.kt ex.kt o1
  refine ⟨v, q, [.ty sn, .ty tn], .type (tyName d), [.type sn, .type tn], f d || g d, rfl, upd_same, .cons (.ty sn) (.cons (.ty tn) .nil), mp_ty (.rp hrp), ?_, gg _ (.dat (.bool _)) ρ1 _ (k1.trans ex.kt) (r1.ex ex) (Rp.bl _) hk⟩
  refine kitAny_cons (kit_ty (hf d)) (fun z => ?_) (fun z => by rw [z]; rfl)
  rw [z, Bool.false_or]
  refine kitAny_cons (kit_ty (hg' d)) (fun z => ?_) (fun z => z)
  rw [z]
  rfl

/-! ### in -/
theorem do_inS {c : Nat} {z : Str} (q : kd (.bool (decide (c ∈ z.cps.toList)))) : DOp C.X (compareOp .In) (.str ⟨#[c]⟩) (.str z) kd := DOp.of op_in_sign fun H vx vy Q mx my g => by
  cases mx.str
  cases my.str
  exact ⟨c, z, rfl, rfl, g _ _ H (Ex.refl H) (.bl _) q⟩
theorem do_ninS {c : Nat} {z : Str} (q : kd (.bool (!decide (c ∈ z.cps.toList)))) : DOp C.X (compareOp .NotIn) (.str ⟨#[c]⟩) (.str z) kd := DOp.of op_notIn_sign fun H vx vy Q mx my g => by
  cases mx.str
  cases my.str
  exact ⟨c, z, rfl, rfl, g _ _ H (Ex.refl H) (.bl _) q⟩
theorem room_shp {A : Around} {d : PyData} {ds : List PyData} (h : SeqAt.shaped d = true) (hu : A.units + 200 < cLine) : A.units + 1 + min (PyData.depthAll ds) d.depth < cLine := by
  have h1 := SeqAt.depth_of_shaped h
  have h2 : min (PyData.depthAll ds) d.depth ≤ d.depth := Nat.min_le_right _ _
  omega
theorem do_inL {d : PyData} {ds : List PyData} (hm : Rm C) (hd : SeqAt.shaped d = true) (hl : SeqAt.shaped (.list ds) = true) (q : kd (.bool (ds.any fun z => PyData.eqv z d))) : DOp C.X (compareOp .In) d (.list ds) kd := fun pins s σ H vx vy u w Q I rx ry mx my g => by
  obtain ⟨as, r1⟩ := mp_reads I mx rx
  obtain ⟨bs, r2⟩ := mp_reads I my ry
  exact SeqAt.in_list_reads r2 r1 (SeqAt.canLay_of_shaped hl) (SeqAt.canLay_of_shaped hd) (room_shp hd hm) ⟨.bl _, H, I, rfl, g _ _ H (Ex.refl H) (.bl _) q⟩
theorem do_ninL {d : PyData} {ds : List PyData} (hm : Rm C) (hd : SeqAt.shaped d = true) (hl : SeqAt.shaped (.list ds) = true) (q : kd (.bool (!ds.any fun z => PyData.eqv z d))) : DOp C.X (compareOp .NotIn) d (.list ds) kd := fun pins s σ H vx vy u w Q I rx ry mx my g => by
  obtain ⟨as, r1⟩ := mp_reads I mx rx
  obtain ⟨bs, r2⟩ := mp_reads I my ry
  exact SeqAt.notIn_list_reads r2 r1 (SeqAt.canLay_of_shaped hl) (SeqAt.canLay_of_shaped hd) (room_shp hd hm) ⟨.bl _, H, I, rfl, g _ _ H (Ex.refl H) (.bl _) q⟩

/-! ### range(a, b, -1) -/
theorem di_range3 {pr : Pos} (hm : C.X.mg "range" = none) (h : DAd C ρ [a, b, c] fun ds ρ1 => ∃ lo hi : Int, ds = [.int lo, .int hi, .int (-1)] ∧ (-(2 ^ 62) ≤ lo ∧ lo < 2 ^ 62 ∧ -(2 ^ 62) ≤ hi ∧ hi < 2 ^ 62) ∧ kl (downFrom lo (lo - hi).toNat) ρ1) (hg : Gl C.X "range" := by rfl)
    (hs : starEach [a, b, c] C.X.env = (false, eval a C.X.env) :: starEach [b, c] C.X.env := by rfl) (hpl : (backTo pr (starEach [b, c] C.X.env)).any (·.1) = false := by rfl) : DI C ρ tg (.Call (.Name "range" p) [a, b, c] [] pr) kl := fun σ H R r g => by
  refine WI.of (pi_range3 hg hm WA.pa hs hpl) ?_
  refine h σ H _ r fun vs ds ρ1 H1 k1 r1 o1 _ h1 => ?_
  obtain ⟨lo, hi, rfl, ⟨b1, b2, b3, b4⟩, hk⟩ := h1
  have e : vs = [.int lo, .int hi, .int (-1)] := RpL.ints (ns := [lo, hi, -1]) o1
  subst e
  exact ⟨lo, hi, -1, _, rfl, RgC.neg b1 b2 b3 b4, g _ _ ρ1 H1 k1 r1 (wk_down lo _) hk⟩
theorem de_neg {i : Int} {j} {p3 : Pos} (q : k (.dat (.int (-i))) ρ) : DE C ρ (.UnaryOp .USub (.Constant (.int i) j p) p3) k := fun σ H Q r g =>
  WE.of (pe_un un_neg pe_int) ⟨i, rfl, g _ (.dat (.int (-i))) ρ H (KT.refl H) r (Rp.int _) q⟩

/-! ### name = [..] -/
theorem WS.thn {X : Cx} {E E' : Ends} (h : WS X st E σ H) (h1 : ∀ pins s τ H', Inv X pins τ H' s → E.nx τ H' → ∃ τ' H'', Inv X pins τ' H'' s ∧ E'.nx τ' H'') (h2 : E.rt = E'.rt) (h3 : E.bk = E'.bk) (h4 : E.ct = E'.ct) : WS X st E' σ H := fun pins s I =>
  L2.thn (h pins s I) fun f s' q => by
    cases f with
    | next =>
      obtain ⟨τ, H1, I1, q⟩ := q
      exact h1 pins s' τ H1 I1 q
    | brk =>
      obtain ⟨τ, H1, I1, q⟩ := q
      exact ⟨τ, H1, I1, by rw [← h3]; exact q⟩
    | cont =>
      obtain ⟨τ, H1, I1, q⟩ := q
      exact ⟨τ, H1, I1, by rw [← h4]; exact q⟩
    | ret v =>
      obtain ⟨w, τ, H1, I1, rw', q⟩ := q
      exact ⟨w, τ, H1, I1, rw', by rw [← h2]; exact q⟩
/-- where a store of a new list is told by its reading -/
theorem ds_newL {i : Nat} {te : TE} (hp : PS C.X st (tAsg te (gName i)))
    (h : ∀ σ H (Q : VK), C.Rs ρ σ H → (∀ p vs ds ρ' H', KT H H' → C.Rs ρ' σ H' → New C.H0 C.dr ρ' σ p → H' p = some (.lst vs) → C.RpL H' vs ds → nx (ρ'.set i (.own ds)) → Q (.ref p) H') → te σ H Q) : DS C ρ st nx rt bk ct := fun σ H E r ac => by
  refine WS.of hp ?_
  refine h σ H _ r fun p vs ds ρ1 H1 k1 r1 n hq hl h1 => ?_
  exact ac.nx _ _ H1 k1 (Rs.setO r1 n hq hl) h1
theorem ds_newF {i : Nat} {te : TE} (hp : PS C.X st (tAsg te (gName i)))
    (h : ∀ σ H (Q : VK), C.Rs ρ σ H → (∀ p vs ds ρ' H', KT H H' → C.Rs ρ' σ H' → New C.H0 C.dr ρ' σ p → H' p = some (.lst vs) → C.RpL H' vs ds → nx (ρ'.set i (.dat (.list ds))) → Q (.ref p) H') → te σ H Q) : DS C ρ st nx rt bk ct := fun σ H E r ac => by
  refine WS.thn (E := { E with nx := fun τ H1 => ∃ p vs ds ρ1, τ = σ.set i (some (.ref p)) ∧ KT H H1 ∧ C.Rs ρ1 σ H1 ∧ New C.H0 C.dr ρ1 σ p ∧ H1 p = some (.lst vs) ∧ C.RpL H1 vs ds ∧ nx (ρ1.set i (.dat (.list ds))) }) (WS.of hp ?_) ?_ rfl rfl rfl
  · refine h σ H _ r fun p vs ds ρ1 H1 k1 r1 n hq hl h1 => ?_
    exact ⟨p, vs, ds, ρ1, rfl, k1, r1, n, hq, hl, h1⟩
  · rintro pins s τ H1 I ⟨p, vs, ds, ρ1, rfl, k1, r1, n, hq, hl, hk⟩
    obtain ⟨o, I'⟩ := freeze I hq (by intro xs z; cases z) (by intro o w z; cases z) (by intro ps z; cases z) (by intro a z; cases z)
    exact ⟨_, _, I', ac.nx _ _ _ (k1.trans (kt_frz hq)) (Rs.setD (Rs.frz r1 n hq) (Rp.lst ⟨o, upd_same⟩ (hl.kt (kt_frz hq)))) hk⟩
/-- the reading of a comprehension without tests -/
theorem lc_te {scope : Scope} {x : Str} {j : Nat} (h : DI C ρ (.Name x px) iter fun ds ρ1 => ρ1[j]? = some .no ∧ ds.length < sizeLine ∧ ∃ I : Nat → List PyData → Rho → Prop, I 0 [] ρ1 ∧
      (∀ i d acc ρ2, ds[i]? = some d → I i acc ρ2 → ∀ s H0 C0 cl fp Hx, DE ⟨blkX C.X scope s H0 C0 cl fp, Hx, C.dr⟩ (ρ2.set j (.dat d)) elt fun ev ρ3 => ∃ d', ev = .dat d' ∧ I (i + 1) (acc ++ [d']) (ρ3.set j .no)) ∧ ∀ acc ρ2, I ds.length acc ρ2 → kl acc ρ2)
    (Q : VK) (r : C.Rs ρ σ H) (g : ∀ p vs ds ρ' H', KT H H' → C.Rs ρ' σ H' → New C.H0 C.dr ρ' σ p → H' p = some (.lst vs) → C.RpL H' vs ds → kl ds ρ' → Q (.ref p) H') : tLc (WI C.X (.Name x px) iter) (gName j) tYes (WEb C.X scope elt) [j] σ H Q := by
  refine h σ H _ r fun J ds ρ1 H1 k1 r1 w h1 => ?_
  obtain ⟨hno, hz, I, i0, hst, hd⟩ := h1
  refine lc_core (scope := scope) r1 w hno hz (fun q vs zs ρ2 H2 k2 r2 n2 hq hl hk => g q vs zs ρ2 H2 (k1.trans k2) r2 n2 hq hl hk) I i0 hd fun i d acc ρ2 hdi hI Hx σ2 H2 Qt r2 hq => ?_
  refine hq true _ H2 (KT.refl H2) r2 (fun _ Qe hQe => fun s H0 C0 cl fp => ?_) (fun z => nomatch z)
  refine hst i d acc ρ2 hdi hI s H0 C0 cl fp Hx σ2 H2 Qe r2 fun v ev ρ3 H3 k3 r3 o3 h3 => ?_
  obtain ⟨d', rfl, h3⟩ := h3
  exact hQe v d' ρ3 H3 k3 r3 o3 h3
theorem ps_lc {scope : Scope} {x y : Str} {i j : Nat} {spos : Pos} (ok : BlkOk C.X.N C.X.env.scope scope [(x, j)]) (hN : C.X.N.Nodup) (hy : C.X.N[i]? = some y) (hyl : C.X.env.scope.names.lookup y = some .local)
    (hg : ∀ s H0 C0 cl fp, PG (blkX C.X scope s H0 C0 cl fp) (.Name x px) (gName j))
    (hsw : swapsWith (.ListComp elt [⟨.Name x px, iter, [], 0⟩] scope pos) (some (.Name y py)) spos.line C.X.env = pure true) (hc : C.X.calm = true := by rfl) (hs : ∀ x, foldedSetIterable iter C.X.env x = pure x := by intro _; rfl) :
    PS C.X (.Assign [.Name y py] (.ListComp elt [⟨.Name x px, iter, [], 0⟩] scope pos) spos) (tAsg (tLc (WI C.X (.Name x px) iter) (gName j) tYes (WEb C.X scope elt) [j]) (gName i)) :=
  ps_setLc (own := [(x, j)]) hc hN hy hyl hsw WI.pi ok hg (fun _ _ _ _ _ => pts_nil) (fun s H0 C0 cl fp => (⟨fun pins s' σ H Q I h => h s H0 C0 cl fp pins s' I⟩ : PE (blkX C.X scope s H0 C0 cl fp) elt (WEb C.X scope elt))) hs

/-! ### the script, the drawn list -/
theorem de_scr {i : Nat} {x : Str} {ns : List Int} (q : k (.ali i) ρ) (h : ρ[i]? = some (.scr ns)) (hN : C.X.N[i]? = some x) (hv : Vis C.X.env.scope x) (hd : (x == ("__debug__" : Str)) = false := by decide) (hcd : (x == ("__classdict__" : Str)) = false := by decide) :
    DE C ρ (.Name x pos) k := fun σ H Q r g => by
  obtain ⟨l, h1, _⟩ := Rs.scr r h
  exact WE.of (pe_var hN hv hd hcd) ⟨.ref l, h1, g _ (.ali i) ρ H (KT.refl H) r h1 q⟩
theorem de_lenScr {i : Nat} {x : Str} {ns : List Int} (hm : C.X.mg "len" = none) (h : ρ[i]? = some (.scr ns)) (q : k (.dat (.int ns.length)) ρ) (hN : C.X.N[i]? = some x) (hv : Vis C.X.env.scope x) (hg : Gl C.X "len" := by rfl) (hd : (x == ("__debug__" : Str)) = false := by decide) (hcd : (x == ("__classdict__" : Str)) = false := by decide)
    (he : starEach [.Name x px] C.X.env = (false, eval (.Name x px) C.X.env) :: starEach [] C.X.env := by rfl) (hpl : (backTo pos (starEach [] C.X.env)).any (·.1) = false := by rfl) : DE C ρ (.Call (.Name "len" p) [.Name x px] [] pos) k := fun σ H Q r g => by
  obtain ⟨l, h1, h2⟩ := Rs.scr r h
  refine WE.of (pe_callB call_len_seq hg hm PySem.boot_len (pa_cons (pe_var hN hv hd hcd) pa_nil he) (by decide) (by decide) he hpl) ?_
  refine ⟨.ref l, h1, l, _, rfl, .inl h2.l, ?_⟩
  rw [List.length_map]
  exact g _ (.dat (.int _)) ρ H (KT.refl H) r (Rp.int _) q
theorem dl_slScr {i : Nat} {x : Str} {ns : List Int} {lo hi : Option Expr} (h : ρ[i]? = some (.scr ns)) (hN : C.X.N[i]? = some x) (hv : Vis C.X.env.scope x) (hk : DO C ρ lo fun l ρ2 => DO C ρ2 hi fun u ρ3 => kl (cutD (ns.map .int) l u) ρ3) (hd : (x == ("__debug__" : Str)) = false := by decide) (hcd : (x == ("__classdict__" : Str)) = false := by decide) :
    DL C ρ (.Subscript (.Name x px) (.Slice lo hi none p2) pos) kl := fun σ H Q r g => by
  obtain ⟨t, h1, h2⟩ := Rs.scr r h
  refine WE.of (pe_slice sl_list (pe_var hN hv hd hcd) WO.po WO.po) ?_
  refine ⟨.ref t, h1, ?_⟩
  refine hk σ H _ r fun l ρ2 H2 k2 r2 hk2 => ?_
  refine hk2 σ H2 _ r2 fun u ρ3 H3 k3 r3 h3 => ?_
  refine ⟨t, _, rfl, (h2.kt (k2.trans k3)).l, fun q nq => ?_⟩
  have ex : Ex H3 (L2.upd H3 q (.lst (cutV (ns.map V.int) l u))) := Ex.new nq
  exact g q _ _ ρ3 _ ((k2.trans k3).trans ex.kt) (r3.ex ex) (New.of_none r3 nq) upd_same ((cut_rpl (RpL.ofInts ns) l u).kt ex.kt) h3
/-- the drawn list is made here -/
theorem db_drw {i : Nat} {x : Str} {pos' : Pos} (h : DL C ρ e fun ds ρ1 => ∃ g m c : Int, ds = [.int g, .int m, .int c] ∧ 0 ≤ g ∧ 0 ≤ m ∧ m < 2 ^ 61 ∧ 0 ≤ c ∧ i < ρ1.length ∧ ∀ q, DB ⟨C.X, C.H0, some q⟩ (ρ1.set i .drw) sts (fun _ => False) rt (fun _ => False) (fun _ => False)) (hdr : C.dr = none) (hN : C.X.N.Nodup) (hi : C.X.N[i]? = some x) (hx : Loc C.X.env.scope x)
    (hs : swapsWith e (some (.Name x pos')) pos.line C.X.env = pure false := by rfl) (hf : C.X.fn x = true ∨ C.X.env.scope.names.lookup x = some .local := by first | exact .inl rfl | exact .inr rfl | assumption) :
    DB C ρ (.Assign [.Name x pos'] e pos :: sts) nx rt bk ct := fun σ H E r ac => by
  refine WB.of (pss_cons (ps_set hN hi hx WE.pe hs hf) WB.pss) ?_
  refine h σ H _ r fun q vs ds ρ1 H1 k1 r1 n hq hl h1 => ?_
  obtain ⟨g, m, c, rfl, hg, hm, hm2, hc, hi, hB⟩ := h1
  have e : vs = [.int g, .int m, .int c] := RpL.ints (ns := [g, m, c]) hl
  subst e
  have fr' : Fr C.H0 (some q) H1 := ⟨fun b o hb _ => r1.fr.ext b o hb (by rw [hdr]; exact fun z => nomatch z), r1.fr.kt, fun a ha => by
    cases ha
    exact ⟨g, m, c, hq, hg, hm, hm2, hc⟩⟩
  have back : ∀ {H2 : Hp}, Fr C.H0 (some q) H2 → Fr C.H0 C.dr H2 := fun {H2} f => ⟨fun b o hb _ => f.ext b o hb (fun z => by
    cases z
    rw [n.e] at hb
    cases hb), f.kt, fun a ha => by rw [hdr] at ha; cases ha⟩
  have hiσ : i < σ.length := by rw [r1.len]; exact hi
  refine hB q (σ.set i (some (.ref q))) H1 E ⟨fr', by rw [List.length_set, List.length_set]; exact r1.len, fun j sv h => ?_, fun j1 j2 s1 s2 l h1 h2 o1 o2 e1 e2 => ?_⟩ ⟨fun ρ2 σ2 H2 k2 r2 qn => ?_, fun v rv H2 k2 fr rvo qr => ?_, fun ρ2 σ2 H2 k2 r2 qn => ?_, fun ρ2 σ2 H2 k2 r2 qn => ?_⟩
  · by_cases hj : i = j
    · subst hj
      rw [List.getElem?_set_self hi] at h
      cases h
      rw [List.getElem?_set_self hiσ]
      exact ⟨q, rfl, rfl⟩
    · rw [List.getElem?_set_ne hj] at h
      rw [List.getElem?_set_ne hj]
      have hs := r1.sl j sv h
      cases sv with
      | no => exact True.intro
      | dat d => exact hs
      | own ds =>
        obtain ⟨l, a1, a2, a3, ws, a4, a5⟩ := hs
        exact ⟨l, a1, a2, fun z => by
          cases z
          exact own_ne n r1 h rfl a1 rfl, ws, a4, a5⟩
      | dic ds =>
        obtain ⟨l, a1, a2, a3, ws, a4, a5⟩ := hs
        exact ⟨l, a1, a2, fun z => by
          cases z
          exact own_ne n r1 h rfl a1 rfl, ws, a4, a5⟩
      | drw =>
        obtain ⟨a, a1, _⟩ := hs
        rw [hdr] at a1
        cases a1
      | scr ns => exact hs
  · have n1 : i ≠ j1 := fun z => by
      subst z
      rw [List.getElem?_set_self hi] at h1
      cases h1
      cases o1
    have n2 : i ≠ j2 := fun z => by
      subst z
      rw [List.getElem?_set_self hi] at h2
      cases h2
      cases o2
    rw [List.getElem?_set_ne n1] at h1 e1
    rw [List.getElem?_set_ne n2] at h2 e2
    exact r1.sep j1 j2 s1 s2 l h1 h2 o1 o2 e1 e2
  · exact qn.elim
  · refine ac.rt v rv H2 (k1.trans k2) (back fr) ?_ qr
    cases rv with
    | dat d => exact rvo
    | lst ds =>
      obtain ⟨p', ws, a1, a2, _, a4, a5⟩ := rvo
      exact ⟨p', ws, a1, a2, (by rw [hdr]; intro z; cases z), a4, a5⟩
  · exact qn.elim
  · exact qn.elim
end
end DW
namespace DW
open PySem L2 PySem.Spec PyProof.Rows

/-! ### defs of the text, by name -/
/-- the def x stands at the top, with these parameters -/
structure Df (K : PySem.W.Frag) (mg : Str → Option Value) (x : Str) (st : Stmt) (ps : List Str) : Prop where
  ex : ∃ (f : Addr) (fd : FuncData), Fun K x x st f fd ∧ mg x = some (.ref f) ∧ Binds K fd ps []
/-- the def x keeps fs, by level k -/
structure Fn (P : Program) (w : World) (K : PySem.W.Frag) (mg : Str → Option Value) (base : Heap) (k : Nat) (x : Str) (fs : FS) : Prop where
  ex : ∃ (f : Addr) (fd : FuncData) (ps : List Str), FnG P w K mg base k f fd ps (spOf K fs) ∧ mg x = some (.ref f) ∧ PySem.W.keepIn K (.ref f) = true ∧ Binds K fd ps []
section
variable {P : Program} {w : World} {K : PySem.W.Frag} {mg : Str → Option Value} {base : Heap}
theorem Fn.mono {j k : Nat} {x : Str} {fs : FS} (F : Fn P w K mg base j x fs) (h : j ≤ k) : Fn P w K mg base k x fs := by
  obtain ⟨f, fd, ps, F, r⟩ := F.ex
  exact ⟨f, fd, ps, F.mono h, r⟩
theorem Fn.imp {k : Nat} {x : Str} {fs fs' : FS} (F : Fn P w K mg base k x fs) (h : ∀ avs R, fs' avs R → fs avs R) : Fn P w K mg base k x fs' := by
  obtain ⟨f, fd, ps, F, r⟩ := F.ex
  have hh : ∀ vs H Q E, spOf K fs' vs H Q E → spOf K fs vs H Q E := fun vs H Q E ⟨dr, avs, R, a, b, c, d⟩ => ⟨dr, avs, R, a, b, h _ _ c, d⟩
  exact ⟨f, fd, ps, ⟨fun vs H Q E q => F.len vs H Q E (hh _ _ _ _ q), fun A outer s H args us vs Q E a b c d e q => F.run A outer s H args us vs Q E a b c d e (hh _ _ _ _ q)⟩, r⟩
theorem Fn.cal {k : Nat} {x : Str} {fs : FS} {X : Cx} (F : Fn X.prog X.w X.K X.mg X.base k x fs) (hr : Room k X.A) (hg : X.A.guards = some []) : Cal X x fs := by
  obtain ⟨f, fd, ps, F, h1, h2, h3⟩ := F.ex
  exact ⟨k, f, fd, ps, F, hr, hg, h1, h2, h3⟩
theorem Df.ok {x : Str} {st : Stmt} {N ps : List Str} {k : Nat} {fs : FS} (F : Df K mg x st ps) (S : FnScope N ps (defScope st)) (hl : ∀ avs R, fs avs R → avs.length = ps.length)
    (hb : ∀ (f : Addr) (cdv : Value) (A : Around) (outer : List Env) (s : Shared) (H : Hp) (E : XK) (dr : Option Addr) (avs : List AV) (R : RV → Prop), Room k (A.deeper (PyProof.Rows.envOfC x (defScope st) s.heap.objs.size f cdv)) → A.guards = some [] → fs avs R →
      DB ⟨fcx P w K mg base N x st f cdv A outer s H E, H, dr⟩ (avs.map AV.sv ++ List.replicate (N.length - ps.length) .no) (defBody st) (fun _ => R (.dat .none)) R (fun _ => False) (fun _ => False)) : Fn P w K mg base (k + 1) x fs := by
  obtain ⟨f, fd, F, h1, h2⟩ := F.ex
  exact ⟨f, fd, ps, fn_ok F S hl fun cdv A outer s H E dr avs R => hb f cdv A outer s H E dr avs R, h1, F.kp, h2⟩
/-- nothing can be asked of it -/
theorem Df.none {x : Str} {st : Stmt} {ps : List Str} {fs : FS} {k : Nat} (F : Df K mg x st ps) (h : ∀ avs R, ¬ fs avs R) : Fn P w K mg base k x fs := by
  obtain ⟨f, fd, F, h1, h2⟩ := F.ex
  have no : ∀ vs H Q E, ¬ spOf K fs vs H Q E := fun vs H Q E ⟨_, avs, R, _, _, z, _⟩ => h avs R z
  exact ⟨f, fd, ps, ⟨fun vs H Q E z => absurd z (no vs H Q E), fun A outer s H args us vs Q E _ _ _ _ _ z => absurd z (no vs H Q E)⟩, h1, F.kp, h2⟩
theorem df_mk {x : Str} {st : Stmt} {ps : List Str} {h : Heap} {f : Addr} {oc : Value} {od an : Option Addr} {osl : Array (Option Value)} {kV doc pm cdv ct : Value} (X : K.In h) (G : h.Ns mainGlobals mg) (a : PySem.W.nsIn K mainGlobals x = some (some (.ref f)))
    (l : K.lookup f = some ⟨oc, od, .func (PySem.W.fnOf x x (defArgs st) (defBody st) (defScope st) .none kV doc pm an cdv ct), osl⟩) (c : PySem.W.codeIn K cdv x = true) (k : PySem.W.keepIn K (.ref f) = true)
    (hb : ∀ (kV doc pm : Value) (an : Option Addr) (cdv ct : Value) (us : List Value), us.length = ps.length → bindArgs (PySem.W.fnOf x x (defArgs st) (defBody st) (defScope st) .none kV doc pm an cdv ct) ⟨us, []⟩ = pure (ps.zip us)) : Df K mg x st ps := by
  have F := fun_mk (st := st) l c k
  exact ⟨f, _, F, PySem.W.mg_of X G a, F.binds hb⟩
end

/-! ### the built-ins' names -/
theorem bt_int : bootBuiltins "int" = some (.type "int") := by decide +kernel
theorem bt_bool : bootBuiltins "bool" = some (.type "bool") := by decide +kernel
theorem bt_str : bootBuiltins "str" = some (.type "str") := by decide +kernel
theorem bt_tuple : bootBuiltins "tuple" = some (.type "tuple") := by decide +kernel
theorem bt_list : bootBuiltins "list" = some (.type "list") := by decide +kernel
theorem bt_dict : bootBuiltins "dict" = some (.type "dict") := by decide +kernel
theorem bb_abs : bootBuiltins "abs" = some (.builtin "abs") := by decide +kernel
theorem bb_repr : bootBuiltins "repr" = some (.builtin "repr") := by decide +kernel
theorem bb_all : bootBuiltins "all" = some (.builtin "all") := by decide +kernel
theorem bb_any : bootBuiltins "any" = some (.builtin "any") := by decide +kernel
theorem bb_sum : bootBuiltins "sum" = some (.builtin "sum") := by decide +kernel
theorem bb_max : bootBuiltins "max" = some (.builtin "max") := by decide +kernel
theorem bb_min : bootBuiltins "min" = some (.builtin "min") := by decide +kernel
theorem bb_sorted : bootBuiltins "sorted" = some (.builtin "sorted") := by decide +kernel
theorem bb_len : bootBuiltins "len" = some (.builtin "len") := by decide +kernel

/-! ### the law's head -/
def fsLaw : FS := fun avs R => ∃ ns : List Int, avs = [.scr ns] ∧ ns.length ≤ 63 ∧ R (.dat (.bool true))
theorem law_run {P : Program} {w : World} {K : PySem.W.Frag} {mg mb : Str → Option Value} {k : Nat} {fa a : Addr} {fd : FuncData} {x : Str} {s1 : Shared} {us : List Value} {ns : List Int}
    (kin : K.In s1.heap) (gl : s1.heap.Ns mainGlobals mg) (bl : s1.heap.Ns builtinsNs mb) (bb : ∀ x : Str, x ≠ "__name__" → mb x = bootBuiltins x) (nolim : s1.heap.NoLimit) (gens : s1.gens = #[])
    (ha : s1.heap.get? a = some { cls := .type "list", data := .seq us.toArray }) (hi : IntsAre us ns) (hl : ns.length ≤ 63) (hr : Room k callerA)
    (F : ∀ base : Heap, K.In base → base.Ns mainGlobals mg → FnG P w K mg base k fa fd [x] (spOf K fsLaw)) (hb : Binds K fd [x] []) :
    codeAny (model P w) callerA (.call (.ref fa) ⟨[.ref a], []⟩) (fun r s' => r = .ok (.ret (.bool true)) ∧ OldK s1.heap s'.heap ∧ s'.os = s1.os ∧ AllBare s'.gens) s1 := by
  have rv : Vals (ns.map V.int) us := vals_of_ints hi
  have hlen : ns.length = us.length := by rw [← rv.length, List.length_map]
  have main : ∀ H : Hp, (∀ b u, H b = some u → b = a ∧ ∃ o xs, u = .frz o (.lst xs)) → (H a ≠ none → K.lookup a = none) → SqS K H a (ns.map V.int) → HOk P w H s1.heap →
      codeAny (model P w) callerA (.call (.ref fa) ⟨[.ref a], []⟩) (fun r s' => r = .ok (.ret (.bool true)) ∧ OldK s1.heap s'.heap ∧ s'.os = s1.os ∧ AllBare s'.gens) s1 := by
    intro H hO hK hS hok
    have dictFree : ∀ {b : Addr} {o : Obj} {es : Array DictEntry} {ep : Nat}, s1.heap.get? b = some o → o.data = .dict es ep → H b = none := by
      intro b o es ep e d
      cases q : H b with
      | none => rfl
      | some u =>
        obtain ⟨rfl, _⟩ := hO b u q
        rw [ha] at e
        cases e
        cases d
    have nsB : ∀ {b : Addr} {m : Str → Option Value}, s1.heap.Ns b m → (hidT s1.heap H).Ns b m := by
      rintro b m ⟨o, es, ep, e, d, r⟩
      exact ⟨o, es, ep, hidT_get e (dictFree e d), d, r⟩
    have kB : K.In (hidT s1.heap H) := by
      intro b o e
      refine hidT_get (kin b o e) ?_
      cases q : H b with
      | none => rfl
      | some u =>
        obtain ⟨rfl, _⟩ := hO b u q
        rw [hK (by rw [q]; simp)] at e
        cases e
    obtain ⟨mc, n1, n2⟩ := nolim
    have e0 : Env0 P w K mg (hidT s1.heap H) callerA [] s1 H := {
      frames := rfl
      mod := ⟨kB, nsB gl, ⟨mb, nsB bl, bb⟩, ⟨mc, nsB n1, n2⟩⟩
      bs := fun b o e => of_hidT e
      bsz := Nat.le_of_eq (hidT_size _ _)
      funs := trivial
      frf := by intro b z; cases z
      hok := hok
      bare := .of_eq gens }
    have hsp : spOf K fsLaw [.ref a] H (fun v _ => v = .bl true) (fun _ _ _ => False) := by
      refine ⟨none, [.scr ns], fun rv => rv = .dat (.bool true), (by intro z q; cases q), .scr hS .nil, ⟨ns, rfl, hl, rfl⟩, ?_⟩
      rintro v rv H' _ ok rfl
      exact (Mp.rp ok).bl
    refine codeAny_mono ((F _ kB (nsB gl)).run callerA [] s1 H ⟨[.ref a], []⟩ [.ref a] [.ref a] _ _ hr rfl e0 (hb s1 [.ref a] kin rfl) (.cons rfl .nil) hsp) ?_
    intro r s' h
    match r, h with
    | .error e, h => exact h.elim
    | .ok .next, h => exact h.elim
    | .ok .brk, h => exact h.elim
    | .ok .cont, h => exact h.elim
    | .ok (.ret u), h =>
      obtain ⟨v, H', os, bare, un, hok', r', q⟩ := h
      subst q
      cases r'
      refine ⟨rfl, OldK.of_keep ?_, os, bare⟩
      intro b o e
      cases q : H b with
      | none => exact un.keep b o e q (by intro z; cases z) (by intro z; cases z)
      | some u =>
        obtain ⟨_, ob, xs, rfl⟩ := hO b u q
        have q2 := un.frzs b ob _ q
        have e1 := (hok b _ q).1
        have e2 := (hok' b _ q2).1
        rw [e] at e1
        cases e1
        exact e2
  cases hk : K.lookup a with
  | some o =>
    have e := kin a o hk
    rw [ha] at e
    cases e
    refine main (fun _ => none) (by intro b u z; cases z) (fun z => absurd rfl z) (.inr ⟨_, us.toArray, _, hk, rfl, rfl, rfl, ?_, by simpa using rv⟩) (by intro b u z; cases z)
    rw [List.size_toArray, ← hlen]
    exact Nat.le_trans hl (by decide)
  | none =>
    have hsz : (ns.map V.int).length ≤ sizeLine := by rw [List.length_map]; exact Nat.le_trans hl (by decide)
    refine main (pin (fun _ => none) a (.frz { cls := .type "list", data := .seq us.toArray } (.lst (ns.map V.int)))) ?_ (fun _ => hk) (.inl ⟨_, pin_same⟩) ?_
    · intro b u z
      by_cases hb : b = a
      · subst hb
        rw [pin_same] at z
        cases z
        exact ⟨rfl, _, _, rfl⟩
      · rw [pin_ne hb] at z
        cases z
    · intro b u z
      by_cases hb : b = a
      · subst hb
        rw [pin_same] at z
        cases z
        exact ⟨ha, hsz, us, _, rv, ha⟩
      · rw [pin_ne hb] at z
        cases z
theorem walk_law {l : PySem.W.OpenLaw} {k : Nat} {q : Program} {loose : List Str} {XP : (Str → Option Value) → Heap → Prop} {YP : World → Heap → Prop} {d : DefRec} {K : Params → PySem.W.Frag} {x : Str}
    (hn : l.most = some 63) (hdf : d.params.defaults = []) (hr : Room k callerA) (hY : ∀ (w : World) (h : Heap), YP w h → (K w.params).In h)
    (F : ∀ (w : World) (mg : Str → Option Value) (h : Heap), (K w.params).In h → h.Ns mainGlobals mg →
      ∃ (fa : Addr) (fd : FuncData), mg d.name = some (.ref fa) ∧ Binds (K w.params) fd [x] [] ∧ ∀ base : Heap, (K w.params).In base → base.Ns mainGlobals mg → FnG l.prog w (K w.params) mg base k fa fd [x] (spOf (K w.params) fsLaw)) :
    PySem.W.WalkO q loose XP YP l.row.toRowW d [] (fun f vs => PySem.call f vs) := by
  refine Att.attach_call hn hdf ?_
  intro w s0 s1 mg mb fa o pm cd doc a vs ns G Y ho hd hcd hmg hobj hints hlen hg
  have kin := hY w _ Y
  obtain ⟨fa', fd, hfa, hb, hF⟩ := F w mg _ kin G.T.g
  rw [hmg] at hfa
  cases hfa
  exact law_run kin G.T.g G.T.b G.T.builtins G.T.nolimit hg hobj hints hlen hr hF hb
end DW
namespace DW
open PySem L2
section
variable {C : DC} {ρ ρ' : Rho} {σ : L2.St} {H H' : Hp} {e a b c iter elt : Expr} {es : List Expr} {pos pos' p p2 apos cpos px py : Pos} {k : EV → Rho → Prop} {kd : PyData → Prop} {kl : List PyData → Rho → Prop} {nx : Rho → Prop} {rt : RV → Prop} {bk ct : Rho → Prop} {st : Stmt} {sts : List Stmt} {i : Nat} {x : Str}
/-! ### the same, the name's slot found first -/
theorem nm_dat {d : PyData} (hN : C.X.N[i]? = some x) (hv : Vis C.X.env.scope x) (h : ρ[i]? = some (.dat d)) (q : k (.dat d) ρ) (hd : (x == ("__debug__" : Str)) = false := by decide) (hcd : (x == ("__classdict__" : Str)) = false := by decide) : DE C ρ (.Name x pos) k := de_dat q h hN hv hd hcd
theorem nm_own {ds : List PyData} (hN : C.X.N[i]? = some x) (hv : Vis C.X.env.scope x) (h : ρ[i]? = some (.own ds)) (q : k (.ali i) ρ) (hd : (x == ("__debug__" : Str)) = false := by decide) (hcd : (x == ("__classdict__" : Str)) = false := by decide) : DE C ρ (.Name x pos) k := de_own q h hN hv hd hcd
theorem nm_drw (hN : C.X.N[i]? = some x) (hv : Vis C.X.env.scope x) (h : ρ[i]? = some .drw) (q : k (.ali i) ρ) (hd : (x == ("__debug__" : Str)) = false := by decide) (hcd : (x == ("__classdict__" : Str)) = false := by decide) : DE C ρ (.Name x pos) k := de_drw q h hN hv hd hcd
theorem nm_scr {ns : List Int} (hN : C.X.N[i]? = some x) (hv : Vis C.X.env.scope x) (h : ρ[i]? = some (.scr ns)) (q : k (.ali i) ρ) (hd : (x == ("__debug__" : Str)) = false := by decide) (hcd : (x == ("__classdict__" : Str)) = false := by decide) : DE C ρ (.Name x pos) k := de_scr q h hN hv hd hcd
theorem st_set (hi : C.X.N[i]? = some x) (hx : Loc C.X.env.scope x) (hN : C.X.N.Nodup) (h : DE C ρ e fun ev ρ1 => ∃ d, ev = .dat d ∧ nx (ρ1.set i (.dat d)))
    (hs : swapsWith e (some (.Name x pos')) pos.line C.X.env = pure false := by rfl) (hf : C.X.fn x = true ∨ C.X.env.scope.names.lookup x = some .local := by first | exact .inl rfl | exact .inr rfl) : DS C ρ (.Assign [.Name x pos'] e pos) nx rt bk ct := ds_set h hN hi hx hs hf
theorem st_setL (hi : C.X.N[i]? = some x) (hx : Loc C.X.env.scope x) (hN : C.X.N.Nodup) (h : DL C ρ e fun ds ρ1 => nx (ρ1.set i (.own ds)))
    (hs : swapsWith e (some (.Name x pos')) pos.line C.X.env = pure false := by rfl) (hf : C.X.fn x = true ∨ C.X.env.scope.names.lookup x = some .local := by first | exact .inl rfl | exact .inr rfl) : DS C ρ (.Assign [.Name x pos'] e pos) nx rt bk ct := ds_setL h hN hi hx hs hf
theorem gt_name {d : PyData} {k : Rho → Prop} (hi : C.X.N[i]? = some x) (hx : Loc C.X.env.scope x) (hN : C.X.N.Nodup) (q : k (ρ.set i (.dat d))) (hf : C.X.fn x = true ∨ C.X.env.scope.names.lookup x = some .local := by first | exact .inl rfl | exact .inr rfl) : DGo C ρ (.Name x pos) d k := dg_name q hN hi hx hf
theorem gts_cons {d : PyData} {ts : List Expr} {ds : List PyData} {k : Rho → Prop} (hi : C.X.N[i]? = some x) (hx : Loc C.X.env.scope x) (hN : C.X.N.Nodup) (h : DGs C (ρ.set i (.dat d)) ts ds k) (hf : C.X.fn x = true ∨ C.X.env.scope.names.lookup x = some .local := by first | exact .inl rfl | exact .inr rfl)
    (hs : (assignEach (.Name x pos :: ts) C.X.env).map (·.2) = assign (.Name x pos) C.X.env :: (assignEach ts C.X.env).map (·.2) := by rfl) : DGs C ρ (.Name x pos :: ts) (d :: ds) k := dgs_cons h hN hi hx hf hs
theorem me_append {ds0 : List PyData} (hN : C.X.N[i]? = some x) (hv : Vis C.X.env.scope x) (h0 : ρ[i]? = some (.own ds0)) (h : DE C ρ e fun ev ρ1 => ∃ d ds, ev = .dat d ∧ ρ1[i]? = some (.own ds) ∧ ds.length < sizeLine ∧ k (.dat .none) (ρ1.set i (.own (ds ++ [d]))))
    (hd : (x == ("__debug__" : Str)) = false := by decide) (hcd : (x == ("__classdict__" : Str)) = false := by decide)
    (hbase : attributeBase (.Name x px) "append" C.X.env (eval (.Name x px) C.X.env) = eval (.Name x px) C.X.env := by rfl)
    (hfew : ((backTo cpos (starEach [e] C.X.env)).all (fun x => !x.1) && (backToKw cpos (keywordEach [] C.X.env)).all (fun x => x.1.isSome)
      && decide (([e] : List Expr).length + ([] : List Keyword).length + (if ([] : List Keyword).isEmpty then 0 else 1) < 30)) = true := by rfl)
    (hline : (apos.endLine == cpos.line) = true := by rfl) (hs : starEach [e] C.X.env = (false, eval e C.X.env) :: starEach [] C.X.env := by rfl) (hplain : (backTo cpos (starEach [] C.X.env)).any (·.1) = false := by rfl) :
    DE C ρ (.Call (.Attribute (.Name x px) "append" apos) [e] [] cpos) k := de_append h h0 hN hv hd hcd hbase hfew hline hs hplain
theorem me_extend {ds0 : List PyData} (hN : C.X.N[i]? = some x) (hv : Vis C.X.env.scope x) (h0 : ρ[i]? = some (.own ds0)) (h : DE C ρ e fun ev ρ1 => ∃ zs ds, (ev = .dat (.list zs) ∨ ev = .dat (.tuple zs)) ∧ ρ1[i]? = some (.own ds) ∧ ds.length + zs.length ≤ sizeLine ∧ k (.dat .none) (ρ1.set i (.own (ds ++ zs))))
    (hd : (x == ("__debug__" : Str)) = false := by decide) (hcd : (x == ("__classdict__" : Str)) = false := by decide)
    (hbase : attributeBase (.Name x px) "extend" C.X.env (eval (.Name x px) C.X.env) = eval (.Name x px) C.X.env := by rfl)
    (hfew : ((backTo cpos (starEach [e] C.X.env)).all (fun x => !x.1) && (backToKw cpos (keywordEach [] C.X.env)).all (fun x => x.1.isSome)
      && decide (([e] : List Expr).length + ([] : List Keyword).length + (if ([] : List Keyword).isEmpty then 0 else 1) < 30)) = true := by rfl)
    (hline : (apos.endLine == cpos.line) = true := by rfl) (hs : starEach [e] C.X.env = (false, eval e C.X.env) :: starEach [] C.X.env := by rfl) (hplain : (backTo cpos (starEach [] C.X.env)).any (·.1) = false := by rfl) :
    DE C ρ (.Call (.Attribute (.Name x px) "extend" apos) [e] [] cpos) k := de_extend h h0 hN hv hd hcd hbase hfew hline hs hplain
theorem me_pop {ds : List PyData} {d : PyData} (hN : C.X.N[i]? = some x) (hv : Vis C.X.env.scope x) (h0 : ρ[i]? = some (.own (ds ++ [d]))) (q : k (.dat d) (ρ.set i (.own ds))) (hd : (x == ("__debug__" : Str)) = false := by decide) (hcd : (x == ("__classdict__" : Str)) = false := by decide)
    (hbase : attributeBase (.Name x px) "pop" C.X.env (eval (.Name x px) C.X.env) = eval (.Name x px) C.X.env := by rfl) (hline : (apos.endLine == cpos.line) = true := by rfl) :
    DE C ρ (.Call (.Attribute (.Name x px) "pop" apos) [] [] cpos) k := de_pop h0 q hN hv hd hcd hbase hline
theorem Cal.blk {X : Cx} {fs : FS} {scope : Scope} {s : Shared} {H0 : Hp} {C0 : Addr} {cl : List (Str × Addr)} {fp : List Addr} (h : Cal X x fs) : Cal (blkX X scope s H0 C0 cl fp) x fs := ⟨h.ex⟩
/-! ### comprehensions, by slot -/
theorem pg_blk {X : Cx} {scope : Scope} {j : Nat} (hj : X.N[j]? = some x) (hN : X.N.Nodup) (hl : scope.names.lookup x = some .local) : ∀ s H0 C0 cl fp, PG (blkX X scope s H0 C0 cl fp) (.Name x px) (gName j) := fun s H0 C0 cl fp =>
  have hl' : (blkX X scope s H0 C0 cl fp).env.scope.names.lookup x = some .local := lookup_relabel_local hl
  pg_name (X := blkX X scope s H0 C0 cl fp) hN hj (.inl hl') (.inr hl')
theorem lc_map {scope : Scope} {j : Nat} (hj : C.X.N[j]? = some x) (hN : C.X.N.Nodup) (ok : blkC C.X.N C.X.env.scope scope [(x, j)] = true) (hl : scope.names.lookup x = some .local) (f : PyData → PyData)
    (h : DI C ρ (.Name x px) iter fun ds ρ1 => ρ1[j]? = some .no ∧ ds.length < sizeLine ∧ (∀ d ∈ ds, ∀ s H0 C0 cl fp Hx, DE ⟨blkX C.X scope s H0 C0 cl fp, Hx, C.dr⟩ (ρ1.set j (.dat d)) elt fun ev ρ3 => ev = .dat (f d) ∧ ρ3 = ρ1.set j (.dat d)) ∧ kl (ds.map f) ρ1)
    (hc : C.X.calm = true := by rfl) (hs : ∀ x, foldedSetIterable iter C.X.env x = pure x := by intro _; rfl) : DL C ρ (.ListComp elt [⟨.Name x px, iter, [], 0⟩] scope pos) kl := by
  refine dl_lc (j := j) ?_ (blkOk_by ok) hN (pg_blk hj hN hl) hc hs
  intro σ H R r g
  refine h σ H R r fun J ds ρ1 H1 k1 r1 w h1 => g J ds ρ1 H1 k1 r1 w ?_
  obtain ⟨hno, hz, hst, hk⟩ := h1
  refine ⟨hno, hz, fun i acc ρ2 => ρ2 = ρ1 ∧ acc = (ds.take i).map f, ⟨rfl, rfl⟩, ?_, ?_⟩
  · rintro i d acc ρ2 hd ⟨rfl, rfl⟩ s H0 C0 cl fp Hx
    refine (hst d (List.mem_of_getElem? hd) s H0 C0 cl fp Hx).mono ?_
    rintro ev ρ3 ⟨rfl, rfl⟩
    refine ⟨f d, rfl, ?_, ?_⟩
    · rw [List.set_set]
      exact set_no hno
    · rw [List.take_add_one, hd, List.map_append]
      rfl
  · rintro acc ρ2 ⟨rfl, rfl⟩
    rw [List.take_of_length_le (Nat.le_refl _)]
    exact hk
theorem lc_filter {scope : Scope} {j : Nat} (hj : C.X.N[j]? = some x) (hN : C.X.N.Nodup) (ok : blkC C.X.N C.X.env.scope scope [(x, j)] = true) (hl : scope.names.lookup x = some .local) (t : PyData → Bool) (f : PyData → PyData)
    (h : DI C ρ (.Name x px) iter fun ds ρ1 => ρ1[j]? = some .no ∧ ds.length < sizeLine ∧ (∀ d ∈ ds, ∀ s H0 C0 cl fp Hx, DT ⟨blkX C.X scope s H0 C0 cl fp, Hx, C.dr⟩ (ρ1.set j (.dat d)) c fun b ρ3 => b = t d ∧ ρ3 = ρ1.set j (.dat d)) ∧
      (∀ d ∈ ds, t d = true → ∀ s H0 C0 cl fp Hx, DE ⟨blkX C.X scope s H0 C0 cl fp, Hx, C.dr⟩ (ρ1.set j (.dat d)) elt fun ev ρ3 => ev = .dat (f d) ∧ ρ3 = ρ1.set j (.dat d)) ∧ kl ((ds.filter t).map f) ρ1)
    (hc : C.X.calm = true := by rfl) (hs : ∀ x, foldedSetIterable iter C.X.env x = pure x := by intro _; rfl) : DL C ρ (.ListComp elt [⟨.Name x px, iter, [c], 0⟩] scope pos) kl := by
  refine dl_lcIf (j := j) ?_ (blkOk_by ok) hN (pg_blk hj hN hl) hc hs
  intro σ H R r g
  refine h σ H R r fun J ds ρ1 H1 k1 r1 w h1 => g J ds ρ1 H1 k1 r1 w ?_
  obtain ⟨hno, hz, ht, hst, hk⟩ := h1
  refine ⟨hno, hz, fun i acc ρ2 => ρ2 = ρ1 ∧ acc = ((ds.take i).filter t).map f, ⟨rfl, rfl⟩, ?_, ?_⟩
  · rintro i d acc ρ2 hd ⟨rfl, rfl⟩ s H0 C0 cl fp Hx
    have hm := List.mem_of_getElem? hd
    intro σ2 H2 Q2 r2 g2
    refine ht d hm s H0 C0 cl fp Hx σ2 H2 Q2 r2 fun b ρ3 H3 k3 r3 h3 => g2 b ρ3 H3 k3 r3 ?_
    obtain ⟨rfl, rfl⟩ := h3
    refine ⟨fun hb s H0 C0 cl fp => (hst d hm hb s H0 C0 cl fp Hx).mono ?_, fun hb => ⟨?_, ?_⟩⟩
    · rintro ev ρ3 ⟨rfl, rfl⟩
      refine ⟨f d, rfl, ?_, ?_⟩
      · rw [List.set_set]
        exact set_no hno
      · rw [List.take_add_one, hd]
        simp [List.filter_append, hb]
    · rw [List.set_set]
      exact set_no hno
    · rw [List.take_add_one, hd]
      simp [List.filter_append, hb]
  · rintro acc ρ2 ⟨rfl, rfl⟩
    rw [List.take_of_length_le (Nat.le_refl _)]
    exact hk
end
end DW
namespace DW
open PySem L2 PyProof.Rows
section
variable {C : DC} {kd : PyData → Prop} {d d0 d1 : PyData} {ds : List PyData}
theorem dix_t0 (q : kd d) : DIx C.X (.tuple (d :: ds)) (.int 0) kd := dix_tup (atI_nat (j := 0) rfl) q
theorem dix_t1 (q : kd d) : DIx C.X (.tuple (d0 :: d :: ds)) (.int 1) kd := dix_tup (atI_nat (j := 1) rfl) q
theorem dix_t2 (q : kd d) : DIx C.X (.tuple (d0 :: d1 :: d :: ds)) (.int 2) kd := dix_tup (atI_nat (j := 2) rfl) q
theorem dix_l0 (q : kd d) : DIx C.X (.list (d :: ds)) (.int 0) kd := dix_lst (atI_nat (j := 0) rfl) q
theorem dix_l1 (q : kd d) : DIx C.X (.list (d0 :: d :: ds)) (.int 1) kd := dix_lst (atI_nat (j := 1) rfl) q
theorem dix_l2 (q : kd d) : DIx C.X (.list (d0 :: d1 :: d :: ds)) (.int 2) kd := dix_lst (atI_nat (j := 2) rfl) q
theorem rb {R : RV → Prop} {a b : Bool} (h : R (.dat (.bool a))) (e : b = a) : R (.dat (.bool b)) := e ▸ h
end
section
variable {C : DC} {ρ : Rho} {e c iter elt : Expr} {pos px : Pos} {kl : List PyData → Rho → Prop} {x : Str}
theorem DI.mono {tg : Expr} {kl' : List PyData → Rho → Prop} (h : DI C ρ tg iter kl) (f : ∀ ds ρ', kl ds ρ' → kl' ds ρ') : DI C ρ tg iter kl' := fun σ H R r g => h σ H R r fun J ds ρ1 H1 k1 r1 w h1 => g J ds ρ1 H1 k1 r1 w (f ds ρ1 h1)
theorem lc_rel {scope : Scope} {j : Nat} (hj : C.X.N[j]? = some x) (hN : C.X.N.Nodup) (hl : scope.names.lookup x = some .local) (Pf : PyData → PyData → Prop)
    (h : DI C ρ (.Name x px) iter fun ds ρ1 => ρ1[j]? = some .no ∧ ds.length < sizeLine ∧ (∀ d ∈ ds, ∀ s H0 C0 cl fp Hx, DE ⟨blkX C.X scope s H0 C0 cl fp, Hx, C.dr⟩ (ρ1.set j (.dat d)) elt fun ev ρ3 => ∃ d', ev = .dat d' ∧ Pf d d' ∧ ρ3 = ρ1.set j (.dat d)) ∧
      ∀ zs : List PyData, zs.length = ds.length → (∀ (i : Nat) d z, ds[i]? = some d → zs[i]? = some z → Pf d z) → kl zs ρ1) (ok : blkC C.X.N C.X.env.scope scope [(x, j)] = true := by rfl)
    (hc : C.X.calm = true := by rfl) (hs : ∀ x, foldedSetIterable iter C.X.env x = pure x := by intro _; rfl) : DL C ρ (.ListComp elt [⟨.Name x px, iter, [], 0⟩] scope pos) kl := by
  refine dl_lc (j := j) ?_ (blkOk_by ok) hN (pg_blk hj hN hl) hc hs
  refine h.mono ?_
  rintro ds ρ1 ⟨hno, hz, hst, hk⟩
  refine ⟨hno, hz, fun i acc ρ2 => ρ2 = ρ1 ∧ acc.length = i ∧ ∀ (n : Nat) d z, ds[n]? = some d → acc[n]? = some z → Pf d z, ⟨rfl, rfl, fun n d z _ e => by simp at e⟩, ?_, ?_⟩
  · rintro i d acc ρ2 hd ⟨rfl, hi, ha⟩ s H0 C0 cl fp Hx
    refine (hst d (List.mem_of_getElem? hd) s H0 C0 cl fp Hx).mono ?_
    rintro ev ρ3 ⟨d', rfl, hp, rfl⟩
    refine ⟨d', rfl, ?_, ?_, ?_⟩
    · rw [List.set_set]
      exact set_no hno
    · rw [List.length_append, hi]
      rfl
    · intro n d2 z h1 h2
      by_cases hn : n < acc.length
      · rw [List.getElem?_append_left hn] at h2
        exact ha n d2 z h1 h2
      · rw [List.getElem?_append_right (by omega)] at h2
        have hn2 : n - acc.length = 0 := by
          rcases Nat.eq_zero_or_pos (n - acc.length) with h | h
          · exact h
          · rw [List.getElem?_eq_none (by rw [List.length_singleton]; omega)] at h2
            exact nomatch h2
        rw [hn2] at h2
        have hni : n = i := by omega
        subst hni
        rw [hd] at h1
        cases h1
        cases h2
        exact hp
  · rintro acc ρ2 ⟨rfl, hi, ha⟩
    exact hk acc hi ha
theorem lc_mapA {α : Type} {scope : Scope} {j : Nat} (hj : C.X.N[j]? = some x) (hN : C.X.N.Nodup) (hl : scope.names.lookup x = some .local) (g f : α → PyData)
    (h : DI C ρ (.Name x px) iter fun ds ρ1 => ∃ zs : List α, ds = zs.map g ∧ ρ1[j]? = some .no ∧ ds.length < sizeLine ∧ (∀ z ∈ zs, ∀ s H0 C0 cl fp Hx, DE ⟨blkX C.X scope s H0 C0 cl fp, Hx, C.dr⟩ (ρ1.set j (.dat (g z))) elt fun ev ρ3 => ev = .dat (f z) ∧ ρ3 = ρ1.set j (.dat (g z))) ∧ kl (zs.map f) ρ1) (ok : blkC C.X.N C.X.env.scope scope [(x, j)] = true := by rfl)
    (hc : C.X.calm = true := by rfl) (hs : ∀ x, foldedSetIterable iter C.X.env x = pure x := by intro _; rfl) : DL C ρ (.ListComp elt [⟨.Name x px, iter, [], 0⟩] scope pos) kl := by
  refine dl_lc (j := j) ?_ (blkOk_by ok) hN (pg_blk hj hN hl) hc hs
  refine h.mono ?_
  rintro ds ρ1 ⟨zs, rfl, hno, hz, hst, hk⟩
  refine ⟨hno, hz, fun i acc ρ2 => ρ2 = ρ1 ∧ acc = (zs.take i).map f, ⟨rfl, rfl⟩, ?_, ?_⟩
  · rintro i d acc ρ2 hd ⟨rfl, rfl⟩ s H0 C0 cl fp Hx
    rw [List.getElem?_map] at hd
    obtain ⟨z, hz2, rfl⟩ := Option.map_eq_some_iff.mp hd
    refine (hst z (List.mem_of_getElem? hz2) s H0 C0 cl fp Hx).mono ?_
    rintro ev ρ3 ⟨rfl, rfl⟩
    refine ⟨f z, rfl, ?_, ?_⟩
    · rw [List.set_set]
      exact set_no hno
    · rw [List.take_add_one, hz2, List.map_append]
      rfl
  · rintro acc ρ2 ⟨rfl, rfl⟩
    rw [List.length_map, List.take_of_length_le (Nat.le_refl _)]
    exact hk
theorem lc_filterA {α : Type} {scope : Scope} {j : Nat} (hj : C.X.N[j]? = some x) (hN : C.X.N.Nodup) (hl : scope.names.lookup x = some .local) (t : α → Bool) (g f : α → PyData)
    (h : DI C ρ (.Name x px) iter fun ds ρ1 => ∃ zs : List α, ds = zs.map g ∧ ρ1[j]? = some .no ∧ ds.length < sizeLine ∧ (∀ z ∈ zs, ∀ s H0 C0 cl fp Hx, DT ⟨blkX C.X scope s H0 C0 cl fp, Hx, C.dr⟩ (ρ1.set j (.dat (g z))) c fun b ρ3 => b = t z ∧ ρ3 = ρ1.set j (.dat (g z))) ∧
      (∀ z ∈ zs, t z = true → ∀ s H0 C0 cl fp Hx, DE ⟨blkX C.X scope s H0 C0 cl fp, Hx, C.dr⟩ (ρ1.set j (.dat (g z))) elt fun ev ρ3 => ev = .dat (f z) ∧ ρ3 = ρ1.set j (.dat (g z))) ∧ kl ((zs.filter t).map f) ρ1) (ok : blkC C.X.N C.X.env.scope scope [(x, j)] = true := by rfl)
    (hc : C.X.calm = true := by rfl) (hs : ∀ x, foldedSetIterable iter C.X.env x = pure x := by intro _; rfl) : DL C ρ (.ListComp elt [⟨.Name x px, iter, [c], 0⟩] scope pos) kl := by
  refine dl_lcIf (j := j) ?_ (blkOk_by ok) hN (pg_blk hj hN hl) hc hs
  refine h.mono ?_
  rintro ds ρ1 ⟨zs, rfl, hno, hz, ht, hst, hk⟩
  refine ⟨hno, hz, fun i acc ρ2 => ρ2 = ρ1 ∧ acc = ((zs.take i).filter t).map f, ⟨rfl, rfl⟩, ?_, ?_⟩
  · rintro i d acc ρ2 hd ⟨rfl, rfl⟩ s H0 C0 cl fp Hx
    rw [List.getElem?_map] at hd
    obtain ⟨z, hz2, rfl⟩ := Option.map_eq_some_iff.mp hd
    have hm := List.mem_of_getElem? hz2
    intro σ2 H2 Q2 r2 g2
    refine ht z hm s H0 C0 cl fp Hx σ2 H2 Q2 r2 fun b ρ3 H3 k3 r3 h3 => g2 b ρ3 H3 k3 r3 ?_
    obtain ⟨rfl, rfl⟩ := h3
    refine ⟨fun hb s H0 C0 cl fp => (hst z hm hb s H0 C0 cl fp Hx).mono ?_, fun hb => ⟨?_, ?_⟩⟩
    · rintro ev ρ3 ⟨rfl, rfl⟩
      refine ⟨f z, rfl, ?_, ?_⟩
      · rw [List.set_set]
        exact set_no hno
      · rw [List.take_add_one, hz2]
        simp [List.filter_append, hb]
    · rw [List.set_set]
      exact set_no hno
    · rw [List.take_add_one, hz2]
      simp [List.filter_append, hb]
  · rintro acc ρ2 ⟨rfl, rfl⟩
    rw [List.length_map, List.take_of_length_le (Nat.le_refl _)]
    exact hk
theorem nT {b : Bool} (h : (!b) = true) : b = false := by cases b <;> first | rfl | exact nomatch h
theorem nF {b : Bool} (h : (!b) = false) : b = true := by cases b <;> first | rfl | exact nomatch h
theorem nTd {p : Prop} [Decidable p] (h : (!decide p) = true) : ¬ p := of_decide_eq_false (nT h)
theorem nFd {p : Prop} [Decidable p] (h : (!decide p) = false) : p := of_decide_eq_true (nF h)
theorem dTr {p : Prop} [Decidable p] (h : decide p = true) : p := of_decide_eq_true h
theorem dFa {p : Prop} [Decidable p] (h : decide p = false) : ¬ p := of_decide_eq_false h
theorem dc_allA {α : Type} {kd : PyData → Prop} {zs : List α} {f : α → Bool} (hc : C.X.calm = true) (q : kd (.bool (zs.all f))) : DCall C.X (.builtin "all") [.list (zs.map fun z => .bool (f z))] kd := by
  have := dc_all (C := C) (kd := kd) (bs := zs.map f) hc (by rw [List.all_map]; exact q)
  rw [List.map_map] at this
  exact this
theorem dc_anyA {α : Type} {kd : PyData → Prop} {zs : List α} {f : α → Bool} (hc : C.X.calm = true) (q : kd (.bool (zs.any f))) : DCall C.X (.builtin "any") [.list (zs.map fun z => .bool (f z))] kd := by
  have := dc_any (C := C) (kd := kd) (bs := zs.map f) hc (by rw [List.any_map]; exact q)
  rw [List.map_map] at this
  exact this
theorem dc_sumA {α : Type} {kd : PyData → Prop} {zs : List α} {f : α → Int} (hc : C.X.calm = true) (q : kd (.int (zs.map f).sum)) : DCall C.X (.builtin "sum") [.list (zs.map fun z => .int (f z))] kd := by
  have := dc_sum (C := C) (kd := kd) (ns := zs.map f) hc q
  rw [List.map_map] at this
  exact this
theorem Rm.blk {X : Cx} {Ha Hx : Hp} {dr : Option Addr} {scope : Scope} {s : Shared} {H0 : Hp} {C0 : Addr} {cl : List (Str × Addr)} {fp : List Addr} (h : Rm ⟨X, Ha, dr⟩) : Rm ⟨blkX X scope s H0 C0 cl fp, Hx, dr⟩ := h
theorem Gd.blk {X : Cx} {Ha Hx : Hp} {dr : Option Addr} {scope : Scope} {s : Shared} {H0 : Hp} {C0 : Addr} {cl : List (Str × Addr)} {fp : List Addr} (h : Gd ⟨X, Ha, dr⟩) : Gd ⟨blkX X scope s H0 C0 cl fp, Hx, dr⟩ := h
theorem rm_of {C : DC} {k : Nat} (h : Room k C.X.A) : Rm C := by have := h.un; unfold Rm; omega
theorem sIx_nat {n dflt j : Nat} : HT.sIx n dflt (some (j : Int)) = min j n := by
  unfold HT.sIx
  simp
  omega
theorem cut_drop (xs : List PyData) (j : Nat) : cutD xs (some (j : Int)) none = xs.drop j := by
  unfold cutD
  rw [sIx_nat]
  show (xs.drop (min j xs.length)).take (xs.length - min j xs.length) = _
  by_cases h : j ≤ xs.length
  · rw [Nat.min_eq_left h, List.take_of_length_le (by rw [List.length_drop]; omega)]
  · rw [List.drop_eq_nil_of_le (by omega), List.drop_eq_nil_of_le (by omega), List.take_nil]
theorem cut_take (xs : List PyData) (j : Nat) : cutD xs none (some (j : Int)) = xs.take j := by
  unfold cutD
  rw [sIx_nat]
  show (xs.drop 0).take (min j xs.length - 0) = _
  rw [List.drop_zero, Nat.sub_zero]
  by_cases h : j ≤ xs.length
  · rw [Nat.min_eq_left h]
  · rw [List.take_of_length_le (by omega), List.take_of_length_le (by omega)]
theorem cut_1 (d : PyData) (ds : List PyData) : cutD (d :: ds) (some 1) none = ds := cut_drop (d :: ds) 1
theorem de_fB {X : Cx} {es : List Expr} {p : Pos} {k : EV → Rho → Prop} {Hx : Hp} {dr : Option Addr} {scope : Scope} {s : Shared} {H0 : Hp} {C0 : Addr} {cl : List (Str × Addr)} {fp : List Addr} {fs : FS} (F : Cal X x fs) (h : DAv ⟨blkX X scope s H0 C0 cl fp, Hx, dr⟩ ρ (e :: es) fun avs ρ1 => fs avs fun rv => k (.dat rv.data) ρ1) (hg : Gl (blkX X scope s H0 C0 cl fp) x := by rfl)
    (hdb : (x == ("__debug__" : Str)) = false := by decide) (he : starEach (e :: es) (blkX X scope s H0 C0 cl fp).env = (false, eval e (blkX X scope s H0 C0 cl fp).env) :: starEach es (blkX X scope s H0 C0 cl fp).env := by rfl) (hpl : (backTo pos (starEach es (blkX X scope s H0 C0 cl fp).env)).any (·.1) = false := by rfl) :
    DE ⟨blkX X scope s H0 C0 cl fp, Hx, dr⟩ ρ (.Call (.Name x p) (e :: es) [] pos) k := de_f (Cal.blk F) h hg hdb he hpl
end
end DW
namespace DW
open PySem L2 PyProof.Rows
section
variable {C : DC} {ρ : Rho} {e : Expr} {pos px p2 p3 : Pos} {x : Str} {k : EV → Rho → Prop} {nx : Rho → Prop} {rt : RV → Prop} {bk ct : Rho → Prop} {i : Nat}
/-- what may stand at a place of the drawn list -/
def Dv (n v : Int) : Prop := 0 ≤ v ∧ (n = 0 ∨ n = 2 ∨ n = 1 ∧ v < 2 ^ 61)
theorem dv_at {H : Hp} {a : Addr} {n : Int} (h : Drawn H a) (hn : n = 0 ∨ n = 1 ∨ n = 2) : ∃ vs v, H a = some (.lst vs) ∧ atI vs n = some (.int v) ∧ Dv n v := by
  obtain ⟨g, m, c, h, h0, h1, h2, h3⟩ := h
  rcases hn with rfl | rfl | rfl
  · exact ⟨_, g, h, rfl, h0, .inl rfl⟩
  · exact ⟨_, m, h, rfl, h1, .inr (.inr ⟨rfl, h2⟩)⟩
  · exact ⟨_, c, h, rfl, h3, .inr (.inl rfl)⟩
theorem dv_set {H : Hp} {a : Addr} {n v : Int} (h : Drawn H a) (hv : Dv n v) : ∃ vs j, H a = some (.lst vs) ∧ ixN vs.length n = some j ∧ Drawn (upd H a (.lst (vs.set j (.int v)))) a := by
  obtain ⟨g, m, c, h, h0, h1, h2, h3⟩ := h
  obtain ⟨hv0, rfl | rfl | ⟨rfl, hv1⟩⟩ := hv
  · exact ⟨_, 0, h, rfl, v, m, c, by unfold upd; rw [if_pos rfl]; rfl, hv0, h1, h2, h3⟩
  · exact ⟨_, 2, h, rfl, g, m, v, by unfold upd; rw [if_pos rfl]; rfl, h0, h1, h2, hv0⟩
  · exact ⟨_, 1, h, rfl, g, v, c, by unfold upd; rw [if_pos rfl]; rfl, h0, hv0, hv1, h3⟩
theorem de_drwIx {n : Int} {j} (hN : C.X.N[i]? = some x) (hv : Vis C.X.env.scope x) (h : ρ[i]? = some .drw) (hn : n = 0 ∨ n = 1 ∨ n = 2) (q : ∀ v : Int, Dv n v → k (.dat (.int v)) ρ) (hd : (x == ("__debug__" : Str)) = false := by decide) (hcd : (x == ("__classdict__" : Str)) = false := by decide) (hs : PlainIx (.Constant (.int n) j p2) := by exact fun _ _ => rfl) :
    DE C ρ (.Subscript (.Name x px) (.Constant (.int n) j p2) pos) k := fun σ H Q r g => by
  obtain ⟨l, h1, h2⟩ := Rs.drw r h
  obtain ⟨vs, v, e1, e2, e3⟩ := dv_at (r.fr.drw l h2) hn
  exact WE.of (pe_ix ix_list (pe_var hN hv hd hcd) pe_int hs) ⟨.ref l, h1, l, vs, n, .int v, rfl, rfl, .of e1, e2, g _ (.dat (.int v)) ρ H (KT.refl H) r (.int v) (q v e3)⟩
theorem ds_drwSet {n : Int} {j} (hN : C.X.N[i]? = some x) (hv : Vis C.X.env.scope x) (h : DE C ρ e fun ev ρ1 => ∃ v : Int, ev = .dat (.int v) ∧ Dv n v ∧ ρ1[i]? = some .drw ∧ nx ρ1) (hd : (x == ("__debug__" : Str)) = false := by decide) (hcd : (x == ("__classdict__" : Str)) = false := by decide)
    (hs : swapsWithSole [.Subscript (.Name x px) (.Constant (.int n) j p2) p3] e pos.line C.X.env = pure false := by rfl) (hw : swappedStores [.Subscript (.Name x px) (.Constant (.int n) j p2) p3] e C.X.env = pure none := by rfl)
    (h1 : (assignEach [.Subscript (.Name x px) (.Constant (.int n) j p2) p3] C.X.env).map (·.2) = [assign (.Subscript (.Name x px) (.Constant (.int n) j p2) p3) C.X.env] := by rfl) 
    (ha : ∀ v, assign (.Subscript (.Name x px) (.Constant (.int n) j p2) p3) C.X.env v = (do
      let ov ← holding [v] (eval (.Name x px) C.X.env)
      let iv ← holding [v, ov] (eval (.Constant (.int n) j p2) C.X.env)
      standAt p3
      holding [v, ov, iv] (setItem ov iv v)
      release [v, ov, iv] []) := by intro _; rfl) :
    DS C ρ (.Assign [.Subscript (.Name x px) (.Constant (.int n) j p2) p3] e pos) nx rt bk ct := fun σ H E r ac => by
  refine WS.of (ps_asg WE.pe (pg_sub (pe_var hN hv hd hcd) pe_int set_list ha) hs hw h1) ?_
  refine h σ H _ r fun v ev ρ1 H1 k1 r1 o1 h1 => ?_
  obtain ⟨v, rfl, hV, hdr, q⟩ := h1
  cases o1
  obtain ⟨l, h3, h2⟩ := Rs.drw r1 hdr
  obtain ⟨vs, jj, e1, e2, e3⟩ := dv_set (r1.fr.drw l h2) hV
  refine ⟨.ref l, h3, l, vs, n, jj, rfl, rfl, e1, e2, ?_⟩
  refine ac.nx ρ1 σ _ (k1.trans (KT.lst e1)) (rs_call r1 ⟨?_, KT.lst e1, ?_⟩) q
  · intro b o hb hne
    unfold upd
    rw [if_neg (fun z => hne (by rw [h2, z]))]
    exact hb
  · intro a ha
    rw [h2] at ha
    cases ha
    exact e3
theorem cmul_mod {a b j : Int} (h0 : 0 < b) (h : b ≤ 2 ^ 64) : CMul (a % b) j := by
  have h1 := Int.emod_nonneg a (show b ≠ 0 by omega)
  have h2 := Int.emod_lt_of_pos a h0
  exact .inl ⟨by omega, by omega⟩
theorem len_scr {p : Pos} {ns : List Int} (hN : C.X.N[i]? = some x) (hv : Vis C.X.env.scope x) (h : ρ[i]? = some (.scr ns)) (hm : C.X.mg "len" = none) (q : k (.dat (.int ns.length)) ρ) (hg : Gl C.X "len" := by rfl) (hd : (x == ("__debug__" : Str)) = false := by decide) (hcd : (x == ("__classdict__" : Str)) = false := by decide)
    (he : starEach [.Name x px] C.X.env = (false, eval (.Name x px) C.X.env) :: starEach [] C.X.env := by rfl) (hpl : (backTo pos (starEach [] C.X.env)).any (·.1) = false := by rfl) : DE C ρ (.Call (.Name "len" p) [.Name x px] [] pos) k := de_lenScr hm h q hN hv hg hd hcd he hpl
end
section
variable {C : DC} {ρ : Rho} {c iter elt : Expr} {pos px py spos : Pos} {x y : Str} {kl : List PyData → Rho → Prop} {nx : Rho → Prop} {rt : RV → Prop} {bk ct : Rho → Prop} {i j : Nat} {scope : Scope}
/-- a comprehension's passes, without tests -/
def LcH (C : DC) (ρ : Rho) (scope : Scope) (x : Str) (px : Pos) (j : Nat) (elt iter : Expr) (kl : List PyData → Rho → Prop) : Prop :=
  DI C ρ (.Name x px) iter fun ds ρ1 => ρ1[j]? = some .no ∧ ds.length < sizeLine ∧ ∃ I : Nat → List PyData → Rho → Prop, I 0 [] ρ1 ∧
      (∀ i d acc ρ2, ds[i]? = some d → I i acc ρ2 → ∀ s H0 C0 cl fp Hx, DE ⟨blkX C.X scope s H0 C0 cl fp, Hx, C.dr⟩ (ρ2.set j (.dat d)) elt fun ev ρ3 => ∃ d', ev = .dat d' ∧ I (i + 1) (acc ++ [d']) (ρ3.set j .no)) ∧ ∀ acc ρ2, I ds.length acc ρ2 → kl acc ρ2
theorem lch_map {α : Type} (g f : α → PyData) (h : DI C ρ (.Name x px) iter fun ds ρ1 => ∃ zs : List α, ds = zs.map g ∧ ρ1[j]? = some .no ∧ ds.length < sizeLine ∧ (∀ z ∈ zs, ∀ s H0 C0 cl fp Hx, DE ⟨blkX C.X scope s H0 C0 cl fp, Hx, C.dr⟩ (ρ1.set j (.dat (g z))) elt fun ev ρ3 => ev = .dat (f z) ∧ ρ3 = ρ1.set j (.dat (g z))) ∧ kl (zs.map f) ρ1) :
    LcH C ρ scope x px j elt iter kl := by
  refine h.mono ?_
  rintro ds ρ1 ⟨zs, rfl, hno, hz, hst, hk⟩
  refine ⟨hno, hz, fun i acc ρ2 => ρ2 = ρ1 ∧ acc = (zs.take i).map f, ⟨rfl, rfl⟩, ?_, ?_⟩
  · rintro i d acc ρ2 hd ⟨rfl, rfl⟩ s H0 C0 cl fp Hx
    rw [List.getElem?_map] at hd
    obtain ⟨z, hz2, rfl⟩ := Option.map_eq_some_iff.mp hd
    refine (hst z (List.mem_of_getElem? hz2) s H0 C0 cl fp Hx).mono ?_
    rintro ev ρ3 ⟨rfl, rfl⟩
    refine ⟨f z, rfl, ?_, ?_⟩
    · rw [List.set_set]
      exact set_no hno
    · rw [List.take_add_one, hz2, List.map_append]
      rfl
  · rintro acc ρ2 ⟨rfl, rfl⟩
    rw [List.length_map, List.take_of_length_le (Nat.le_refl _)]
    exact hk
theorem st_lcF (hi : C.X.N[i]? = some y) (hj : C.X.N[j]? = some x) (hN : C.X.N.Nodup) (h : LcH C ρ scope x px j elt iter fun zs ρ' => nx (ρ'.set i (.dat (.list zs)))) (hl : scope.names.lookup x = some .local := by rfl) (hyl : C.X.env.scope.names.lookup y = some .local := by rfl) (ok : blkC C.X.N C.X.env.scope scope [(x, j)] = true := by rfl)
    (hsw : swapsWith (.ListComp elt [⟨.Name x px, iter, [], 0⟩] scope pos) (some (.Name y py)) spos.line C.X.env = pure true := by rfl) (hc : C.X.calm = true := by rfl) (hs : ∀ x, foldedSetIterable iter C.X.env x = pure x := by intro _; rfl) :
    DS C ρ (.Assign [.Name y py] (.ListComp elt [⟨.Name x px, iter, [], 0⟩] scope pos) spos) nx rt bk ct :=
  ds_newF (ps_lc (blkOk_by ok) hN hi hyl (pg_blk hj hN hl) hsw hc hs) fun σ H Q r g => lc_te h Q r g
theorem st_lcL (hi : C.X.N[i]? = some y) (hj : C.X.N[j]? = some x) (hN : C.X.N.Nodup) (h : LcH C ρ scope x px j elt iter fun zs ρ' => nx (ρ'.set i (.own zs))) (hl : scope.names.lookup x = some .local := by rfl) (hyl : C.X.env.scope.names.lookup y = some .local := by rfl) (ok : blkC C.X.N C.X.env.scope scope [(x, j)] = true := by rfl)
    (hsw : swapsWith (.ListComp elt [⟨.Name x px, iter, [], 0⟩] scope pos) (some (.Name y py)) spos.line C.X.env = pure true := by rfl) (hc : C.X.calm = true := by rfl) (hs : ∀ x, foldedSetIterable iter C.X.env x = pure x := by intro _; rfl) :
    DS C ρ (.Assign [.Name y py] (.ListComp elt [⟨.Name x px, iter, [], 0⟩] scope pos) spos) nx rt bk ct :=
  ds_newL (ps_lc (blkOk_by ok) hN hi hyl (pg_blk hj hN hl) hsw hc hs) fun σ H Q r g => lc_te h Q r g
end
end DW
namespace DW
open PySem L2 PyProof.Rows
section
variable {C : DC} {K : PySem.W.Frag} {H0 : Hp} {dr : Option Addr} {ρ ρ' : Rho} {σ τ : L2.St} {H H' : Hp} {e a b c iter kx vx : Expr} {es : List Expr} {pos p px : Pos} {x : Str} {j : Nat} {kl : List PyData → Rho → Prop} {kk : List (Key × PyData) → Rho → Prop}
theorem KT.dK {H : Hp} {l : Addr} {xs ys : List (Key × V)} (h : H l = some (.dK xs)) : KT H (upd H l (.dK ys)) := ⟨fun b zs e => by
    rw [upd_ne (fun z => by rw [z, h] at e; cases e)]
    exact e, fun b o u e => by
    rw [upd_ne (fun z => by rw [z, h] at e; cases e)]
    exact e⟩
theorem rs_pinD {q : Addr} {vs : List (Key × V)} (r : Rs K H0 dr ρ σ H) (n : New H0 dr ρ σ q) (hq : H q = some (.dK vs)) : Rs K (pin H0 q (.dK vs)) dr ρ σ H := by
  refine ⟨⟨fun b o h hd => ?_, ⟨fun b xs h => ?_, fun b o u h => ?_⟩, r.fr.drw⟩, r.len, fun i sv h => ?_, r.sep⟩
  · by_cases hb : b = q
    · subst hb
      rw [pin_same] at h
      cases h
      exact hq
    · rw [pin_ne hb] at h
      exact r.fr.ext b o h hd
  · by_cases hb : b = q
    · subst hb
      rw [pin_same] at h
      cases h
    · rw [pin_ne hb] at h
      exact r.fr.kt.t b xs h
  · by_cases hb : b = q
    · subst hb
      rw [pin_same] at h
      cases h
    · rw [pin_ne hb] at h
      exact r.fr.kt.f b o u h
  · have hs := r.sl i sv h
    cases sv with
    | no => exact True.intro
    | dat d => exact hs
    | own ds =>
      obtain ⟨l, h1, h2, h3, ws, h4, h5⟩ := hs
      exact ⟨l, h1, by rw [pin_ne (own_ne n r h rfl h1)]; exact h2, h3, ws, h4, h5⟩
    | dic ds =>
      obtain ⟨l, h1, h2, h3, ws, h4, h5⟩ := hs
      exact ⟨l, h1, by rw [pin_ne (own_ne n r h rfl h1)]; exact h2, h3, ws, h4, h5⟩
    | drw => exact hs
    | scr ns => exact hs
theorem rs_unpinD {q : Addr} {vs : List (Key × V)} (r : Rs K (pin H0 q (.dK vs)) dr ρ σ H) (n1 : H0 q = none) (n2 : dr ≠ some q) : Rs K H0 dr ρ σ H ∧ H q = some (.dK vs) ∧ New H0 dr ρ σ q := by
  have hne : ∀ b o, H0 b = some o → b ≠ q := fun b o h z => by rw [z, n1] at h; cases h
  have hq := r.fr.ext q _ pin_same n2
  refine ⟨⟨⟨fun b o h hd => r.fr.ext b o (by rw [pin_ne (hne b o h)]; exact h) hd, ⟨fun b xs h => r.fr.kt.t b xs (by rw [pin_ne (hne b _ h)]; exact h), fun b o u h => r.fr.kt.f b o u (by rw [pin_ne (hne b _ h)]; exact h)⟩, r.fr.drw⟩, r.len, fun i sv h => ?_, r.sep⟩, hq, ⟨n1, n2, fun i sv h ho e => ?_⟩⟩
  · have hs := r.sl i sv h
    cases sv with
    | no => exact True.intro
    | dat d => exact hs
    | own ds =>
      obtain ⟨l, h1, h2, h3, ws, h4, h5⟩ := hs
      have hl : l ≠ q := fun z => by rw [z, pin_same] at h2; cases h2
      exact ⟨l, h1, by rw [pin_ne hl] at h2; exact h2, h3, ws, h4, h5⟩
    | dic ds =>
      obtain ⟨l, h1, h2, h3, ws, h4, h5⟩ := hs
      have hl : l ≠ q := fun z => by rw [z, pin_same] at h2; cases h2
      exact ⟨l, h1, by rw [pin_ne hl] at h2; exact h2, h3, ws, h4, h5⟩
    | drw => exact hs
    | scr ns => exact hs
  · have hs := r.sl i sv h
    cases sv with
    | own ds =>
      obtain ⟨l, h1, h2, _⟩ := hs
      rw [e] at h1
      cases h1
      rw [pin_same] at h2
      cases h2
    | dic ds =>
      obtain ⟨l, h1, h2, _⟩ := hs
      rw [e] at h1
      cases h1
      rw [pin_same] at h2
      cases h2
    | no => cases ho
    | dat d => cases ho
    | drw => cases ho
    | scr ns => cases ho
theorem rs_otherD {q : Addr} {vs vs' : List (Key × V)} (r : Rs K H0 dr ρ σ H) (n : New H0 dr ρ σ q) (hq : H q = some (.dK vs)) : Rs K H0 dr ρ σ (L2.upd H q (.dK vs')) := by
  have kt : KT H (L2.upd H q (.dK vs')) := KT.dK hq
  refine ⟨⟨fun b w h hd => ?_, r.fr.kt.trans kt, fun a h => ?_⟩, r.len, fun i sv h => ?_, r.sep⟩
  · rw [upd_ne (fun z => by rw [z, n.e] at h; cases h)]
    exact r.fr.ext b w h hd
  · obtain ⟨g, m, c, z, t⟩ := r.fr.drw a h
    exact ⟨g, m, c, by
      rw [upd_ne (fun z => n.d (by rw [h, z]))]
      exact z, t⟩
  · have hs := r.sl i sv h
    cases sv with
    | no => exact True.intro
    | dat d =>
      obtain ⟨x, h1, h2⟩ := hs
      exact ⟨x, h1, h2.kt kt⟩
    | own ds =>
      obtain ⟨l, h1, h2, h3, ws, h4, h5⟩ := hs
      exact ⟨l, h1, h2, h3, ws, by rw [upd_ne (own_ne n r h rfl h1)]; exact h4, h5.kt kt⟩
    | dic ds =>
      obtain ⟨l, h1, h2, h3, ws, h4, h5⟩ := hs
      exact ⟨l, h1, h2, h3, ws, by rw [upd_ne (own_ne n r h rfl h1)]; exact h4, h5.kt kt⟩
    | drw => exact hs
    | scr ns =>
      obtain ⟨a, h1, h2⟩ := hs
      exact ⟨a, h1, h2.kt kt⟩
def kD : Key → PyData
  | .inl i => .int i
  | .inr x => .str x
theorem kD_rp {K : PySem.W.Frag} {v : V} {k : Key} (h : Rp K H v (kD k)) : v = kV k := by
  cases k with
  | inl i => cases h; rfl
  | inr x => cases h; rfl
theorem kD_of {K : PySem.W.Frag} (k : Key) : Rp K H (kV k) (kD k) := by
  cases k with
  | inl i => exact .int i
  | inr x => exact .str x
def putD (kvs : List (Key × PyData)) (k : Key) (v : PyData) : List (Key × PyData) :=
  if (kvs.any fun kv => decide (kv.1 = k)) = true then kvs.map (fun kv => if kv.1 = k then (kv.1, v) else kv) else kvs ++ [(k, v)]
theorem putD_len (kvs : List (Key × PyData)) (k : Key) (v : PyData) : (putD kvs k v).length ≤ kvs.length + 1 := by
  unfold putD
  split
  · rw [List.length_map]; omega
  · rw [List.length_append, List.length_singleton]; omega
theorem RpK.length : ∀ {vs : List (Key × V)} {ds : List (Key × PyData)}, RpK K H vs ds → vs.length = ds.length
  | _, _, .nil => rfl
  | _, _, .cons _ q => by rw [List.length_cons, List.length_cons, RpK.length q]
theorem RpK.any (k : Key) : ∀ {vs : List (Key × V)} {ds : List (Key × PyData)}, RpK K H vs ds → (vs.any fun kv => decide (kv.1 = k)) = ds.any fun kv => decide (kv.1 = k)
  | _, _, .nil => rfl
  | _, _, .cons _ q => by rw [List.any_cons, List.any_cons, RpK.any k q]
theorem RpK.rep {v : V} {d : PyData} (k : Key) (r : Rp K H v d) : ∀ {vs : List (Key × V)} {ds : List (Key × PyData)}, RpK K H vs ds → RpK K H (vs.map fun kv => if kv.1 = k then (kv.1, v) else kv) (ds.map fun kv => if kv.1 = k then (kv.1, d) else kv)
  | _, _, .nil => .nil
  | _, _, .cons (k := k') h q => by
    rw [List.map_cons, List.map_cons]
    by_cases e : k' = k
    · rw [if_pos e, if_pos e]; exact .cons r (RpK.rep k r q)
    · rw [if_neg e, if_neg e]; exact .cons h (RpK.rep k r q)
theorem RpK.snoc {v : V} {d : PyData} (k : Key) (r : Rp K H v d) : ∀ {vs : List (Key × V)} {ds : List (Key × PyData)}, RpK K H vs ds → RpK K H (vs ++ [(k, v)]) (ds ++ [(k, d)])
  | _, _, .nil => .cons r .nil
  | _, _, .cons h q => .cons h (RpK.snoc k r q)
theorem RpK.put {v : V} {d : PyData} {k : Key} {vs : List (Key × V)} {ds : List (Key × PyData)} (h : RpK K H vs ds) (r : Rp K H v d) : RpK K H (putK vs k v) (putD ds k d) := by
  unfold putK putD
  rw [h.any k]
  split
  · exact h.rep k r
  · exact h.snoc k r
theorem RpK.keys : ∀ {vs : List (Key × V)} {ds : List (Key × PyData)}, RpK K H vs ds → RpL K H' (vs.map fun kv => kV kv.1) (ds.map fun kv => kD kv.1)
  | _, _, .nil => .nil
  | _, _, .cons (k := k) _ q => .cons (kD_of k) (RpK.keys q)
/-- a new dict -/
def DDi (C : DC) (ρ : Rho) (e : Expr) (kk : List (Key × PyData) → Rho → Prop) : Prop :=
  ∀ σ H (Q : VK), C.Rs ρ σ H → (∀ q vs kvs ρ' H', KT H H' → C.Rs ρ' σ H' → New C.H0 C.dr ρ' σ q → H' q = some (.dK vs) → RpK C.X.K H' vs kvs → kk kvs ρ' → Q (.ref q) H') → WE C.X e σ H Q
theorem dd_dc {scope : Scope} (hj : C.X.N[j]? = some x) (hN : C.X.N.Nodup)
    (h : DI C ρ (.Name x px) iter fun ds ρ1 => ρ1[j]? = some .no ∧ ds.length < sizeLine ∧ ∃ I : Nat → List (Key × PyData) → Rho → Prop, I 0 [] ρ1 ∧
      (∀ i d acc ρ2, ds[i]? = some d → I i acc ρ2 → ∀ Hx s H0 C0 cl fp, DE ⟨blkX C.X scope s H0 C0 cl fp, Hx, C.dr⟩ (ρ2.set j (.dat d)) kx fun ev ρ3 => ∃ k, ev = .dat (kD k) ∧ ∀ s H0 C0 cl fp, DE ⟨blkX C.X scope s H0 C0 cl fp, Hx, C.dr⟩ ρ3 vx fun ev ρ4 => ∃ d', ev = .dat d' ∧ I (i + 1) (putD acc k d') (ρ4.set j .no)) ∧ ∀ acc ρ2, I ds.length acc ρ2 → kk acc ρ2)
    (hl : scope.names.lookup x = some .local := by rfl) (ok : blkC C.X.N C.X.env.scope scope [(x, j)] = true := by rfl) (hc : C.X.calm = true := by rfl) (hs : ∀ x, foldedSetIterable iter C.X.env x = pure x := by intro _; rfl) :
    DDi C ρ (.DictComp kx vx [⟨.Name x px, iter, [], 0⟩] scope pos) kk := fun σ H Q r g => by
  refine WE.of (pe_dc (own := [(x, j)]) hc hN WI.pi (blkOk_by ok) (pg_blk hj hN hl) (fun _ _ _ _ _ => pts_nil) (fun s H0 C0 cl fp => (⟨fun pins s' σ H Q I h => h s H0 C0 cl fp pins s' I⟩ : PE (blkX C.X scope s H0 C0 cl fp) kx (WEb C.X scope kx))) (fun s H0 C0 cl fp => (⟨fun pins s' σ H Q I h => h s H0 C0 cl fp pins s' I⟩ : PE (blkX C.X scope s H0 C0 cl fp) vx (WEb C.X scope vx))) hs) ?_
  refine h σ H _ r fun J ds ρ1 H1 k1 r1 w h1 => ?_
  obtain ⟨hno, hz, I, i0, hst, hd⟩ := h1
  intro q nq
  have hj : j < ρ1.length := (List.getElem?_eq_some_iff.mp hno).1
  have hjσ : j < σ.length := by rw [r1.len]; exact hj
  have new1 : New C.H0 C.dr ρ1 σ q := New.of_none r1 nq
  have ex1 : Ex H1 (L2.upd H1 q (.dK [])) := Ex.new nq
  refine ⟨fun i m H2 => i + m = ds.length ∧ KT H1 H2 ∧ ∃ acc vs ρ2, I i acc ρ2 ∧ acc.length ≤ i ∧ ρ2[j]? = some .no ∧ C.Rs ρ2 σ H2 ∧ New C.H0 C.dr ρ2 σ q ∧ H2 q = some (.dK vs) ∧ RpK C.X.K H2 vs acc,
    ⟨ds.length, Nat.zero_add _, ex1.kt, [], [], ρ1, i0, Nat.le_refl _, hno, r1.ex ex1, new1, upd_same, .nil⟩, fun i m H2 ⟨em, k2, acc, vs, ρ2, i2, al, no2, r2, n2, hq, hl⟩ => ?_⟩
  by_cases hi : i < ds.length
  · refine .inr ⟨w.go H2 i k2 hi, fun H3 => KT H1 H3 ∧ ∃ acc vs ρ2, I (i + 1) acc ρ2 ∧ acc.length ≤ i + 1 ∧ ρ2[j]? = some .no ∧ C.Rs ρ2 σ H3 ∧ New C.H0 C.dr ρ2 σ q ∧ H3 q = some (.dK vs) ∧ RpK C.X.K H3 vs acc, fun H3 z => ⟨m - 1, by omega, by omega, z⟩, fun x H3 hy => ?_⟩
    obtain ⟨ex, hx⟩ := w.yld H2 i x H3 k2 hy
    have hxd := hx _ (List.getElem?_eq_getElem hi)
    have r3 := r2.ex ex
    have hq3 := ex q _ hq
    have l2 : j < ρ2.length := (List.getElem?_eq_some_iff.mp no2).1
    have hw : wipe σ [j] = σ.set j none := rfl
    show wipe (((wipe σ [j]).set j (some x))) [j] = wipe σ [j] ∧ _
    refine ⟨by rw [hw]; show ((σ.set j none).set j (some x)).set j none = σ.set j none; rw [List.set_set, List.set_set], ?_⟩
    have rp := rs_pinD r3 n2 hq3
    have rs1 : Rs C.X.K (pin C.H0 q (.dK vs)) C.dr (ρ2.set j .no) (σ.set j none) H3 := rs_slot rp (List.length_set ..) fun i hi => List.getElem?_set_ne (fun z => hi z.symm)
    rw [set_no no2] at rs1
    have rs2 : Rs C.X.K (pin C.H0 q (.dK vs)) C.dr (ρ2.set j (.dat ds[i])) ((σ.set j none).set j (some x)) H3 := Rs.setD (C := ⟨C.X, pin C.H0 q (.dK vs), C.dr⟩) rs1 hxd
    have back : ∀ {ρ4 : Rho} {H4 : Hp}, Rs C.X.K (pin C.H0 q (.dK vs)) C.dr ρ4 ((σ.set j none).set j (some x)) H4 → C.Rs (ρ4.set j .no) σ H4 ∧ H4 q = some (.dK vs) ∧ New C.H0 C.dr (ρ4.set j .no) σ q ∧ (ρ4.set j .no)[j]? = some .no := fun {ρ4 H4} r4 => by
      have r5 : Rs C.X.K (pin C.H0 q (.dK vs)) C.dr (ρ4.set j .no) σ H4 := rs_slot r4 (by rw [List.length_set, List.length_set]) fun i hi => by rw [List.getElem?_set_ne (fun z => hi z.symm), List.getElem?_set_ne (fun z => hi z.symm)]
      obtain ⟨a1, a2, a3⟩ := rs_unpinD r5 n2.e n2.d
      refine ⟨a1, a2, a3, List.getElem?_set_self ?_⟩
      have := r4.len
      rw [List.length_set, List.length_set] at this
      omega
    unfold tYes
    refine iteT ?_
    refine fun s H0 C0 cl fp => ?_
    refine hst i ds[i] acc ρ2 (List.getElem?_eq_getElem hi) i2 _ s H0 C0 cl fp _ H3 _ rs2 fun v ev ρ4 H4 k4 r4 o4 h4 => ?_
    obtain ⟨k, rfl, h4⟩ := h4
    have hv := kD_rp o4
    refine fun s H0 C0 cl fp => ?_
    refine h4 s H0 C0 cl fp _ H4 _ r4 fun v5 ev5 ρ5 H5 k5 r5 o5 h5 => ?_
    obtain ⟨d', rfl, hI⟩ := h5
    have k34 := (k2.trans ex.kt).trans k4
    obtain ⟨a1, a2, a3, a4⟩ := back r5
    have hl5 : RpK C.X.K H5 vs acc := hl.kt ((ex.kt.trans k4).trans k5)
    have hpl := putD_len acc k d'
    exact ⟨vs, k, hv, a2, by rw [hl5.length]; omega, (k34.trans k5).trans (KT.dK a2), putD acc k d', _, ρ5.set j .no, hI, by omega, a4, rs_otherD a1 a3 a2, a3, upd_same, (hl5.put o5).kt (KT.dK a2)⟩
  · have ei : i = ds.length := by omega
    subst ei
    exact .inl ⟨w.stop H2 k2, g q vs acc ρ2 H2 (k1.trans k2) r2 n2 hq hl (hd acc ρ2 i2)⟩
/-- list(a dict) -/
theorem dl_listDD (hm : C.X.mg "list" = none) (h : DDi C ρ e fun kvs ρ1 => kl (kvs.map fun kv => kD kv.1) ρ1) (hg : Gl C.X "list" := by rfl) (hc : C.X.calm = true := by rfl)
    (he : starEach [e] C.X.env = (false, eval e C.X.env) :: starEach [] C.X.env := by rfl) (hpl : (backTo pos (starEach [] C.X.env)).any (·.1) = false := by rfl) :
    DL C ρ (.Call (.Name "list" p) [e] [] pos) kl := fun σ H Q r g => by
  refine WE.of (pe_callTy (call_list_dK hc) hg hm bt_list (pa_cons WE.pe pa_nil he) (by decide) (by decide) he hpl) ?_
  refine h σ H _ r fun q vs kvs ρ1 H1 k1 r1 n1 hq hl h1 => ?_
  refine ⟨q, vs, rfl, hq, fun t nt => ?_⟩
  have ex : Ex H1 (L2.upd H1 t (.lst (vs.map fun kv => kV kv.1))) := Ex.new nt
  exact g t _ _ ρ1 _ (k1.trans ex.kt) (r1.ex ex) (New.of_none r1 nt) upd_same hl.keys h1
end
end DW
namespace DW
open PySem L2 PyProof.Rows
section
variable {C : DC} {ρ ρ' : Rho} {σ : L2.St} {H H' : Hp} {e a b c : Expr} {es : List Expr} {pos : Pos} {k : EV → Rho → Prop} {nx : Rho → Prop} {rt : RV → Prop} {bk ct : Rho → Prop}
theorem kt_frzD {p : Addr} {vs : List (Key × V)} {o : Obj} (hp : H p = some (.dK vs)) : KT H (L2.upd H p (.frz o (.dK vs))) := ⟨fun b zs e => by
  rw [upd_ne (ne_of e hp (by intro z; cases z))]
  exact e, fun b o u e => by
  rw [upd_ne (ne_of e hp (by intro z; cases z))]
  exact e⟩
theorem Rs.frzD {p : Addr} {vs : List (Key × V)} {o : Obj} (r : C.Rs ρ σ H) (n : New C.H0 C.dr ρ σ p) (hp : H p = some (.dK vs)) : C.Rs ρ σ (L2.upd H p (.frz o (.dK vs))) := by
  have kt := kt_frzD (o := o) hp
  refine ⟨⟨fun b w h hd => ?_, r.fr.kt.trans kt, fun a h => ?_⟩, r.len, fun i sv h => ?_, r.sep⟩
  · rw [upd_ne (fun z => by rw [z, n.e] at h; cases h)]
    exact r.fr.ext b w h hd
  · obtain ⟨g, m, c, q, t⟩ := r.fr.drw a h
    exact ⟨g, m, c, by
      rw [upd_ne (fun z => n.d (by rw [h, z]))]
      exact q, t⟩
  · have hs := r.sl i sv h
    have hne : ∀ l, sv.isOwn = true → (σ[i]?.join) = some (.ref l) → l ≠ p := fun l ho e z => by
      subst z
      obtain ⟨w, hw⟩ := Rs.at r h
      rw [hw] at e
      exact n.s i sv h ho (by rw [hw, show w = some (.ref l) from e])
    cases sv with
    | no => exact True.intro
    | dat d =>
      obtain ⟨x, h1, h2⟩ := hs
      exact ⟨x, h1, h2.kt kt⟩
    | own ds =>
      obtain ⟨l, h1, h2, h3, ws, h4, h5⟩ := hs
      exact ⟨l, h1, h2, h3, ws, by
        rw [upd_ne (hne l rfl h1)]
        exact h4, h5.kt kt⟩
    | dic ds =>
      obtain ⟨l, h1, h2, h3, ws, h4, h5⟩ := hs
      exact ⟨l, h1, h2, h3, ws, by
        rw [upd_ne (hne l rfl h1)]
        exact h4, h5.kt kt⟩
    | drw => exact hs
    | scr ns =>
      obtain ⟨a, h1, h2⟩ := hs
      exact ⟨a, h1, h2.kt kt⟩
theorem de_dic0 (q : k (.dat (.dict [])) ρ) : DE C ρ (.Dict [] [] pos) k := fun σ H Q r g => by
  refine (WE.of (X := C.X) (Q := fun v H' => ∃ p, v = .ref p ∧ H p = none ∧ H' = upd H p (.dK [])) pe_dnewK ?_).thn ?_
  · exact fun p hp => ⟨p, rfl, hp, rfl⟩
  · rintro pins s v u H' I rel ⟨p, rfl, hp, rfl⟩
    have ex : Ex H (upd H p (.dK [])) := Ex.new hp
    have hq : upd H p (.dK []) p = some (.dK []) := upd_same
    obtain ⟨o, I'⟩ := freeze I hq (by intro xs z; cases z) (by intro o w z; cases z) (by intro ps z; cases z) (by intro a z; cases z)
    refine ⟨.ref p, _, I', rel, g _ (.dat (.dict [])) ρ _ (ex.kt.trans (kt_frzD hq)) (Rs.frzD (r.ex ex) (New.of_none r hp) hq) (Rp.dic upd_same) q⟩
theorem New.set {p : Addr} {i : Nat} {v : V} {d : PyData} (n : New C.H0 C.dr ρ σ p) : New C.H0 C.dr (ρ.set i (.dat d)) (σ.set i (some v)) p := by
  refine ⟨n.e, n.d, fun j sv h ho => ?_⟩
  by_cases e : i = j
  · subst e
    by_cases hl : i < ρ.length
    · rw [List.getElem?_set_self hl] at h
      cases h
      exact nomatch ho
    · rw [List.getElem?_eq_none (by rw [List.length_set]; omega)] at h
      exact nomatch h
  · rw [List.getElem?_set_ne e] at h
    rw [List.getElem?_set_ne e]
    exact n.s j sv h ho
variable {i j : Nat} {x y : Str} {px py pt : Pos} {kt k2 pt2}
theorem st_par (hi : C.X.N[i]? = some x) (hj : C.X.N[j]? = some y) (hN : C.X.N.Nodup) (h : DE C ρ a fun ev ρ1 => ∃ d, ev = .dat d ∧ DE C ρ1 b fun ev2 ρ2 => ∃ d', ev2 = .dat d' ∧ nx ((ρ2.set i (.dat d)).set j (.dat d')))
    (hij : i ≠ j := by decide) (hx : C.X.env.scope.names.lookup x = some .local := by rfl) (hy : C.X.env.scope.names.lookup y = some .local := by rfl) (hc : C.X.calm = true := by rfl)
    (hw : swappedStores [.Tuple [.Name x px, .Name y py] kt pt] (.Tuple [a, b] k2 pt2) C.X.env = pure (some [x, y]) := by rfl) (hs : swapsWithSole [.Tuple [.Name x px, .Name y py] kt pt] (.Tuple [a, b] k2 pt2) pos.line C.X.env = pure false := by rfl)
    (he : starEach [a, b] C.X.env = (false, eval a C.X.env) :: starEach [b] C.X.env := by rfl) (he2 : starEach [b] C.X.env = (false, eval b C.X.env) :: starEach [] C.X.env := by rfl) :
    DS C ρ (.Assign [.Tuple [.Name x px, .Name y py] kt pt] (.Tuple [a, b] k2 pt2) pos) nx rt bk ct := fun σ H E r ac => by
  refine WS.of (ps_par hc hN hi hj hij hx hy (pa_cons WE.pe (pa_cons WE.pe pa_nil he2) he) hw hs) ?_
  refine h σ H _ r fun v1 ev1 ρ1 H1 k1 r1 o1 h1 => ?_
  obtain ⟨d, rfl, h1⟩ := h1
  refine h1 σ H1 _ r1 fun v2 ev2 ρ2 H2 k2 r2 o2 h2 => ?_
  obtain ⟨d', rfl, h2⟩ := h2
  exact ⟨v1, v2, rfl, ac.nx _ _ H2 (k1.trans k2) (Rs.setD (Rs.setD r2 (Rp.kt k2 o1)) o2) h2⟩
theorem st_parL (hi : C.X.N[i]? = some x) (hj : C.X.N[j]? = some y) (hN : C.X.N.Nodup) (h : DE C ρ a fun ev ρ1 => ∃ d, ev = .dat d ∧ DL C ρ1 b fun ds ρ2 => nx ((ρ2.set i (.dat d)).set j (.own ds)))
    (hij : i ≠ j := by decide) (hx : C.X.env.scope.names.lookup x = some .local := by rfl) (hy : C.X.env.scope.names.lookup y = some .local := by rfl) (hc : C.X.calm = true := by rfl)
    (hw : swappedStores [.Tuple [.Name x px, .Name y py] kt pt] (.Tuple [a, b] k2 pt2) C.X.env = pure (some [x, y]) := by rfl) (hs : swapsWithSole [.Tuple [.Name x px, .Name y py] kt pt] (.Tuple [a, b] k2 pt2) pos.line C.X.env = pure false := by rfl)
    (he : starEach [a, b] C.X.env = (false, eval a C.X.env) :: starEach [b] C.X.env := by rfl) (he2 : starEach [b] C.X.env = (false, eval b C.X.env) :: starEach [] C.X.env := by rfl) :
    DS C ρ (.Assign [.Tuple [.Name x px, .Name y py] kt pt] (.Tuple [a, b] k2 pt2) pos) nx rt bk ct := fun σ H E r ac => by
  refine WS.of (ps_par hc hN hi hj hij hx hy (pa_cons WE.pe (pa_cons WE.pe pa_nil he2) he) hw hs) ?_
  refine h σ H _ r fun v1 ev1 ρ1 H1 k1 r1 o1 h1 => ?_
  obtain ⟨d, rfl, h1⟩ := h1
  refine h1 σ H1 _ r1 fun p vs ds ρ2 H2 k2 r2 n hp hl h2 => ?_
  exact ⟨v1, .ref p, rfl, ac.nx _ _ H2 (k1.trans k2) (Rs.setO (Rs.setD r2 (Rp.kt k2 o1)) n.set hp hl) h2⟩
theorem db_seq {st : Stmt} {sts : List Stmt} (M : Rho → Prop) (h : DS C ρ st M rt bk ct) (h2 : ∀ ρ1, M ρ1 → DB C ρ1 sts nx rt bk ct) : DB C ρ (st :: sts) nx rt bk ct :=
  db_cons fun σ H E r ac => h σ H E r ⟨fun ρ1 σ1 H1 k1 r1 q => ac.nx ρ1 σ1 H1 k1 r1 (h2 ρ1 q), ac.rt, ac.bk, ac.ct⟩
theorem dix_any {ds : List PyData} {i : Int} {kd : PyData → Prop} (h0 : 0 ≤ i) (h1 : i < ds.length) (h : ∀ d ∈ ds, kd d) : DIx C.X (.list ds) (.int i) kd := by
  obtain ⟨j, rfl⟩ := Int.eq_ofNat_of_zero_le h0
  have hj : j < ds.length := by omega
  exact dix_lst (atI_nat (List.getElem?_eq_getElem hj)) (h _ (List.getElem_mem hj))
end
end DW
namespace DW
open PySem L2 PyProof.Rows
/-- a display of constants -/
def litB : Nat → Expr → Bool
  | _, .Constant (.int _) _ _ => true
  | _, .Constant (.str _) _ _ => true
  | _, .Constant (.bool _) _ _ => true
  | _, .Constant .none _ _ => true
  | _, .UnaryOp .USub (.Constant (.int _) _ _) _ => true
  | _, .BinOp (.Constant (.int i) _ _) .Pow (.Constant (.int j) _ _) _ => decide (0 ≤ j ∧ j ≤ 1000 ∧ i.natAbs < 1000)
  | _, .Dict [] [] _ => true
  | n + 1, .Tuple es _ _ => decide (es.length ≤ 10000) && es.all (litB n)
  | n + 1, .List es _ => decide (es.length ≤ 10000) && es.all (litB n)
  | _, _ => false
/-- its datum -/
def litV : Nat → Expr → PyData
  | _, .Constant (.int i) _ _ => .int i
  | _, .Constant (.str x) _ _ => .str x
  | _, .Constant (.bool b) _ _ => .bool b
  | _, .Constant .none _ _ => .none
  | _, .UnaryOp .USub (.Constant (.int i) _ _) _ => .int (-i)
  | _, .BinOp (.Constant (.int i) _ _) .Pow (.Constant (.int j) _ _) _ => .int (i ^ j.toNat)
  | _, .Dict [] [] _ => .dict []
  | n + 1, .Tuple es _ _ => .tuple (es.map (litV n))
  | n + 1, .List es _ => .list (es.map (litV n))
  | _, _ => .none
theorem star_lit {n : Nat} {e : Expr} (h : litB n e = true) (es : List Expr) (env : Env) : starEach (e :: es) env = (false, eval e env) :: starEach es env := by
  cases e <;> first | rfl | (cases n <;> simp [litB] at h)
theorem dad_lit {C : DC} {f : Expr → Bool} {g : Expr → PyData} (hf : ∀ e, f e = true → ∀ ρ (k : EV → Rho → Prop), k (.dat (g e)) ρ → DE C ρ e k) (hs : ∀ e, f e = true → ∀ es, starEach (e :: es) C.X.env = (false, eval e C.X.env) :: starEach es C.X.env) :
    ∀ (es : List Expr), es.all f = true → ∀ ρ (kl : List PyData → Rho → Prop), kl (es.map g) ρ → DAd C ρ es kl
  | [], h, ρ, kl, q => dad_nil q
  | e :: es, h, ρ, kl, q => by
    rw [List.all_cons, Bool.and_eq_true] at h
    exact dad_cons (hf e h.1 ρ _ ⟨_, rfl, dad_lit hf hs es h.2 ρ _ q⟩) (hs e h.1 es)
theorem de_lit {C : DC} {k : EV → Rho → Prop} : ∀ {n : Nat} {e : Expr} {ρ : Rho}, litB n e = true → k (.dat (litV n e)) ρ → DE C ρ e k := by
  intro n
  induction n generalizing k with
  | zero =>
    intro e ρ h q
    unfold litB at h
    split at h
    · exact de_int q
    · exact de_str q
    · exact de_bl q
    · exact de_non q
    · exact de_neg q
    · have hc := of_decide_eq_true h
      exact de_op (de_int (de_int ⟨_, _, .dat, .dat, do_pow q ⟨hc.1, by omega, by omega⟩⟩))
    · exact de_dic0 q
    · first | contradiction | (exfalso; omega)
    · first | contradiction | (exfalso; omega)
    · exact nomatch h
  | succ n ih =>
    intro e ρ h q
    unfold litB at h
    split at h
    · exact de_int q
    · exact de_str q
    · exact de_bl q
    · exact de_non q
    · exact de_neg q
    · have hc := of_decide_eq_true h
      exact de_op (de_int (de_int ⟨_, _, .dat, .dat, do_pow q ⟨hc.1, by omega, by omega⟩⟩))
    · exact de_dic0 q
    · rename_i e1
      cases e1
      rw [Bool.and_eq_true] at h
      have hl := of_decide_eq_true h.1
      exact de_tuple (dad_lit (fun e h ρ k q => ih h q) (fun e h es => star_lit h es _) _ h.2 ρ _ q) (by unfold sizeLine; omega)
    · rename_i e1
      cases e1
      rw [Bool.and_eq_true] at h
      have hl := of_decide_eq_true h.1
      exact DL.de (dl_list (dad_lit (fun e h ρ k q => ih h q) (fun e h es => star_lit h es _) _ h.2 ρ _ q) (by unfold sizeLine; omega))
    · exact nomatch h
theorem de_litE {C : DC} {k : EV → Rho → Prop} {n : Nat} {e : Expr} {ρ : Rho} {d : PyData} (h : litB n e = true) (hd : litV n e = d) (q : k (.dat d) ρ) : DE C ρ e k := de_lit h (by rw [hd]; exact q)
end DW
namespace DW
open PySem L2 PyProof.Rows
section
variable {P : Program} {w : World} {K : PySem.W.Frag} {mg : Str → Option Value} {base : Heap}
theorem Fr.any {H H' : Hp} {dr : Option Addr} (hd : ∀ a, dr = some a → Drawn H a) (f : Fr H none H') : Fr H dr H' :=
  ⟨fun b o h _ => f.ext b o h (fun z => nomatch z), f.kt, fun a ha => by
    obtain ⟨g, m, c, q, t⟩ := hd a ha
    exact ⟨g, m, c, f.ext a _ q (fun z => nomatch z), t⟩⟩
theorem RvOk.any {H H' : Hp} {dr : Option Addr} {v : V} {rv : RV} (hd : ∀ a, dr = some a → Drawn H a) (h : RvOk K H none H' v rv) : RvOk K H dr H' v rv := by
  cases rv with
  | dat d => exact h
  | lst ds =>
    obtain ⟨p, vs, a1, a2, _, a4, a5⟩ := h
    have a3 : dr ≠ some p := fun z => by
      obtain ⟨g, m, c, q, _⟩ := hd p z
      rw [a2] at q
      cases q
    exact ⟨p, vs, a1, a2, a3, a4, a5⟩
theorem ArgsOk.scr1 {H : Hp} {dr : Option Addr} {vs : List V} {ns : List Int} (h : ArgsOk K H dr vs [.scr ns]) : ArgsOk K H none vs [.scr ns] := by
  cases h with
  | scr h t => cases t; exact .scr h .nil
/-- the law's own def -/
theorem law_fn {x xs : Str} {st : Stmt} {N : List Str} {k : Nat} (F : Df K mg x st [xs]) (S : FnScope N [xs] (defScope st))
    (hb : ∀ (base : Heap) (f : Addr) (cdv : Value) (A : Around) (outer : List Env) (s : Shared) (H : Hp) (E : XK) (ns : List Int), Room k (A.deeper (PyProof.Rows.envOfC x (defScope st) s.heap.objs.size f cdv)) → A.guards = some [] → ns.length ≤ 63 →
      DB ⟨fcx P w K mg base N x st f cdv A outer s H E, H, none⟩ (.scr ns :: List.replicate (N.length - [xs].length) .no) (defBody st) (fun _ => False) (fun rv => rv = .dat (.bool true)) (fun _ => False) (fun _ => False)) :
    ∃ (fa : Addr) (fd : FuncData), mg x = some (.ref fa) ∧ Binds K fd [xs] [] ∧ ∀ base : Heap, K.In base → base.Ns mainGlobals mg → FnG P w K mg base (k + 1) fa fd [xs] (spOf K fsLaw) := by
  obtain ⟨f, fd, F, h1, h2⟩ := F.ex
  refine ⟨f, fd, h1, h2, fun base _ _ => ?_⟩
  have hN : 1 ≤ N.length := by
    have := congrArg List.length S.pre
    rw [List.length_take] at this
    simp at this
    omega
  refine fnG_of F S (fun vs H Q E h => ?_) (fun cdv A outer s H vs Q E hr hgd h => ?_)
  · obtain ⟨dr, avs, R, _, ha, ⟨ns, rfl, _⟩, _⟩ := h
    rw [ha.length]
    rfl
  · obtain ⟨dr, avs, R, hd, ha, ⟨ns, rfl, hl, hR⟩, hq⟩ := h
    refine hb base f cdv A outer s H E ns hr hgd hl (L2.start N vs) H _ (rs_start (ps := [xs]) (by intro a z; cases z) ha.scr1 rfl hN) ⟨fun ρ σ H' _ r q => q.elim, fun v rv H' _ fr rv' q => ?_, fun _ _ _ _ _ z => z.elim, fun _ _ _ _ _ z => z.elim⟩
    subst q
    exact hq v _ H' (fr.any hd) (RvOk.any (dr := dr) hd rv') hR
end
section
variable {C : DC} {ρ : Rho} {st : Stmt} {nx : Rho → Prop} {rt : RV → Prop} {bk ct : Rho → Prop}
theorem ds_mid (M : Rho → Prop) (h : DS C ρ st M rt bk ct) (h2 : ∀ ρ1, M ρ1 → nx ρ1) : DS C ρ st nx rt bk ct := fun σ H E r ac =>
  h σ H E r ⟨fun ρ1 σ1 H1 k1 r1 q => ac.nx ρ1 σ1 H1 k1 r1 (h2 ρ1 q), ac.rt, ac.bk, ac.ct⟩
end
end DW
namespace K01
open PySem L2 DW
def top (i : Nat) : Stmt := PySem.Challenge.pw_shapelang_k01_shapes.main.body.getD i (.Pass ⟨0, 0, 0, 0⟩)
abbrev s_is_shape_name : Stmt := top 9
abbrev s_is_node : Stmt := top 10
abbrev s_is_shape_within : Stmt := top 11
abbrev s_is_shape : Stmt := top 12
abbrev s_occurrences : Stmt := top 13
abbrev s_variables_of : Stmt := top 14
abbrev s_count_nodes : Stmt := top 15
abbrev s_L_draws : Stmt := top 17
abbrev s_L_next : Stmt := top 18
abbrev s_L_one : Stmt := top 19
abbrev s_L_same : Stmt := top 20
abbrev s_L_vars : Stmt := top 21
abbrev s_L_leaf : Stmt := top 22
abbrev s_L_sized : Stmt := top 23
abbrev s_L_tower : Stmt := top 24
abbrev s_L_other : Stmt := top 25
abbrev s_L_odd : Stmt := top 26
abbrev s_L_named : Stmt := top 27
abbrev s_L_look : Stmt := top 28
abbrev s_L_right : Stmt := top 29
abbrev s_law : Stmt := top 30
abbrev n_is_shape_name : List Str := ["value", "sign"]
theorem sc_is_shape_name : FnScope n_is_shape_name ["value"] (defScope s_is_shape_name) := ⟨rfl, rfl, rfl, by decide +kernel, rfl, by decide +kernel, by decide +kernel⟩
abbrev n_is_node : List Str := ["value"]
theorem sc_is_node : FnScope n_is_node ["value"] (defScope s_is_node) := ⟨rfl, rfl, rfl, by decide +kernel, rfl, by decide +kernel, by decide +kernel⟩
abbrev n_is_shape_within : List Str := ["value", "most", "deepest", "waiting", "count", "here", "level", "part"]
theorem sc_is_shape_within : FnScope n_is_shape_within ["value", "most", "deepest"] (defScope s_is_shape_within) := ⟨rfl, rfl, rfl, by decide +kernel, rfl, by decide +kernel, by decide +kernel⟩
abbrev n_is_shape : List Str := ["value"]
theorem sc_is_shape : FnScope n_is_shape ["value"] (defScope s_is_shape) := ⟨rfl, rfl, rfl, by decide +kernel, rfl, by decide +kernel, by decide +kernel⟩
abbrev n_occurrences : List Str := ["shape", "waiting", "found", "here"]
theorem sc_occurrences : FnScope n_occurrences ["shape"] (defScope s_occurrences) := ⟨rfl, rfl, rfl, by decide +kernel, rfl, by decide +kernel, by decide +kernel⟩
abbrev n_variables_of : List Str := ["shape", "variable"]
theorem sc_variables_of : FnScope n_variables_of ["shape"] (defScope s_variables_of) := ⟨rfl, rfl, rfl, by decide +kernel, rfl, by decide +kernel, by decide +kernel⟩
abbrev n_count_nodes : List Str := ["shape", "part"]
theorem sc_count_nodes : FnScope n_count_nodes ["shape"] (defScope s_count_nodes) := ⟨rfl, rfl, rfl, by decide +kernel, rfl, by decide +kernel, by decide +kernel⟩
abbrev n_L_draws : List Str := ["_law_script", "_law_great", "_law_mixed", "_law_cell"]
theorem sc_L_draws : FnScope n_L_draws ["_law_script"] (defScope s_L_draws) := ⟨rfl, rfl, rfl, by decide +kernel, rfl, by decide +kernel, by decide +kernel⟩
abbrev n_L_next : List Str := ["_law_drawn", "_law_many", "_law_digit", "_law_mixed"]
theorem sc_L_next : FnScope n_L_next ["_law_drawn", "_law_many"] (defScope s_L_next) := ⟨rfl, rfl, rfl, by decide +kernel, rfl, by decide +kernel, by decide +kernel⟩
abbrev n_L_one : List Str := ["_law_drawn", "_law_items"]
theorem sc_L_one : FnScope n_L_one ["_law_drawn", "_law_items"] (defScope s_L_one) := ⟨rfl, rfl, rfl, by decide +kernel, rfl, by decide +kernel, by decide +kernel⟩
abbrev n_L_same : List Str := ["_law_found", "_law_due", "_law_k"]
theorem sc_L_same : FnScope n_L_same ["_law_found", "_law_due"] (defScope s_L_same) := ⟨rfl, rfl, rfl, by decide +kernel, rfl, by decide +kernel, by decide +kernel⟩
abbrev n_L_vars : List Str := ["_law_shape", "_law_found", "_law_part", "_law_one_here"]
theorem sc_L_vars : FnScope n_L_vars ["_law_shape"] (defScope s_L_vars) := ⟨rfl, rfl, rfl, by decide +kernel, rfl, by decide +kernel, by decide +kernel⟩
abbrev n_L_leaf : List Str := ["_law_drawn", "_law_limit"]
theorem sc_L_leaf : FnScope n_L_leaf ["_law_drawn", "_law_limit"] (defScope s_L_leaf) := ⟨rfl, rfl, rfl, by decide +kernel, rfl, by decide +kernel, by decide +kernel⟩
abbrev n_L_sized : List Str := ["_law_drawn", "_law_many", "_law_limit", "_law_count", "_law_left", "_law_parts", "_law_rest", "_law_more", "_law_name"]
theorem sc_L_sized : FnScope n_L_sized ["_law_drawn", "_law_many", "_law_limit"] (defScope s_L_sized) := ⟨rfl, rfl, rfl, by decide +kernel, rfl, by decide +kernel, by decide +kernel⟩
abbrev n_L_tower : List Str := ["_law_drawn", "_law_many", "_law_shape", "_law_k"]
theorem sc_L_tower : FnScope n_L_tower ["_law_drawn", "_law_many", "_law_shape"] (defScope s_L_tower) := ⟨rfl, rfl, rfl, by decide +kernel, rfl, by decide +kernel, by decide +kernel⟩
abbrev n_L_other : List Str := ["_law_drawn", "_law_shape", "_law_part", "_law_spot"]
theorem sc_L_other : FnScope n_L_other ["_law_drawn", "_law_shape", "_law_part"] (defScope s_L_other) := ⟨rfl, rfl, rfl, by decide +kernel, rfl, by decide +kernel, by decide +kernel⟩
abbrev n_L_odd : List Str := ["_law_drawn", "_law_some"]
theorem sc_L_odd : FnScope n_L_odd ["_law_drawn"] (defScope s_L_odd) := ⟨rfl, rfl, rfl, by decide +kernel, rfl, by decide +kernel, by decide +kernel⟩
abbrev n_L_named : List Str := ["_law_name", "_law_many", "_law_signs", "_law_sign"]
theorem sc_L_named : FnScope n_L_named ["_law_name", "_law_many"] (defScope s_L_named) := ⟨rfl, rfl, rfl, by decide +kernel, rfl, by decide +kernel, by decide +kernel⟩
abbrev n_L_look : List Str := ["_law_value", "_law_rows", "_law_part", "_law_row"]
theorem sc_L_look : FnScope n_L_look ["_law_value"] (defScope s_L_look) := ⟨rfl, rfl, rfl, by decide +kernel, rfl, by decide +kernel, by decide +kernel⟩
abbrev n_L_right : List Str := ["_law_value", "_law_held", "_law_size", "_law_due", "_law_told"]
theorem sc_L_right : FnScope n_L_right ["_law_value"] (defScope s_L_right) := ⟨rfl, rfl, rfl, by decide +kernel, rfl, by decide +kernel, by decide +kernel⟩
abbrev n_law : List Str := ["_law_script", "_law_drawn", "_law_turn", "_law_many", "_law_shape", "_law_high", "_law_value", "_law_signs", "_law_name"]
theorem sc_law : FnScope n_law ["_law_script"] (defScope s_law) := ⟨rfl, rfl, rfl, by decide +kernel, rfl, by decide +kernel, by decide +kernel⟩
structure Tp (K : PySem.W.Frag) (mg : Str → Option Value) : Prop where
  d_is_shape_name : Df K mg "is_shape_name" s_is_shape_name ["value"]
  d_is_node : Df K mg "is_node" s_is_node ["value"]
  d_is_shape_within : Df K mg "is_shape_within" s_is_shape_within ["value", "most", "deepest"]
  d_is_shape : Df K mg "is_shape" s_is_shape ["value"]
  d_occurrences : Df K mg "occurrences" s_occurrences ["shape"]
  d_variables_of : Df K mg "variables_of" s_variables_of ["shape"]
  d_count_nodes : Df K mg "count_nodes" s_count_nodes ["shape"]
  d_L_draws : Df K mg "_law_draws" s_L_draws ["_law_script"]
  d_L_next : Df K mg "_law_next" s_L_next ["_law_drawn", "_law_many"]
  d_L_one : Df K mg "_law_one" s_L_one ["_law_drawn", "_law_items"]
  d_L_same : Df K mg "_law_same" s_L_same ["_law_found", "_law_due"]
  d_L_vars : Df K mg "_law_vars" s_L_vars ["_law_shape"]
  d_L_leaf : Df K mg "_law_leaf" s_L_leaf ["_law_drawn", "_law_limit"]
  d_L_sized : Df K mg "_law_sized" s_L_sized ["_law_drawn", "_law_many", "_law_limit"]
  d_L_tower : Df K mg "_law_tower" s_L_tower ["_law_drawn", "_law_many", "_law_shape"]
  d_L_other : Df K mg "_law_other" s_L_other ["_law_drawn", "_law_shape", "_law_part"]
  d_L_odd : Df K mg "_law_odd" s_L_odd ["_law_drawn"]
  d_L_named : Df K mg "_law_named" s_L_named ["_law_name", "_law_many"]
  d_L_look : Df K mg "_law_look" s_L_look ["_law_value"]
  d_L_right : Df K mg "_law_right" s_L_right ["_law_value"]
  d_law : Df K mg "law" s_law ["_law_script"]
  b_abs : mg "abs" = none
  b_all : mg "all" = none
  b_bool : mg "bool" = none
  b_int : mg "int" = none
  b_isinstance : mg "isinstance" = none
  b_len : mg "len" = none
  b_list : mg "list" = none
  b_max : mg "max" = none
  b_min : mg "min" = none
  b_range : mg "range" = none
  b_repr : mg "repr" = none
  b_str : mg "str" = none
  b_sum : mg "sum" = none
  b_tuple : mg "tuple" = none
  c_VARIABLES : ∃ t, mg "VARIABLES" = some (.int 199 t)
  c_NODES : ∃ t, mg "NODES" = some (.int 200 t)
  c_DEPTH : ∃ t, mg "DEPTH" = some (.int 30 t)
  c_CAPITALS : ∃ t, mg "CAPITALS" = some (.str "ABCDEFGHIJKLMNOPQRSTUVWXYZ" t)
  c_SIGNS : ∃ t, mg "SIGNS" = some (.str "abcdefghijklmnopqrstuvwxyzABCDEFGHIJKLMNOPQRSTUVWXYZ0123456789" t)
  c_LONGEST : ∃ t, mg "LONGEST" = some (.int 8 t)
  c_MOST_PARTS : ∃ t, mg "MOST_PARTS" = some (.int 3 t)
  c_ARROW : ∃ t, mg "ARROW" = some (.str "->" t)
end K01
namespace K01
open PySem L2 DW PyProof.Rows
def caps : Str := "ABCDEFGHIJKLMNOPQRSTUVWXYZ"
def signs : Str := "abcdefghijklmnopqrstuvwxyzABCDEFGHIJKLMNOPQRSTUVWXYZ0123456789"
def isName (x : Str) : Bool :=
  decide (1 ≤ x.length) && decide (x.length ≤ 8) && (match x.cps.toList with | c :: _ => decide (c ∈ caps.cps.toList) | [] => false) && x.cps.toList.all fun c => decide (c ∈ signs.cps.toList)
def isNode : PyData → Bool
  | .int i => decide (0 ≤ i) && decide (i ≤ 199)
  | .tuple (.str x :: ds) => if x = "->" then decide (ds.length = 2) else decide (ds.length ≤ 3) && isName x
  | _ => false
def fs_is_shape_name : FS := fun avs R => ∃ x : Str, avs = [.dat (.str x)] ∧ x.length ≤ 1000 ∧ R (.dat (.bool (isName x)))
/-- texts are short -/
def hdOk : PyData → Prop
  | .tuple (.str x :: ds) => x.length ≤ 1000
  | _ => True
def fs_is_node : FS := fun avs R => ∃ d, avs = [.dat d] ∧ hdOk d ∧ R (.dat (.bool (isNode d)))
end K01
namespace K01
open PySem L2 DW PyProof.Rows
/-! ### the plain law -/
mutual
def short : PyData → Bool
  | .str x => decide (x.length ≤ 1000)
  | .list ds => shorts ds
  | .tuple ds => shorts ds
  | _ => true
def shorts : List PyData → Bool
  | [] => true
  | d :: ds => short d && shorts ds
end
mutual
def wf : PyData → Bool
  | .int i => decide (0 ≤ i) && decide (i ≤ 199)
  | .tuple (h :: ds) => isNode (.tuple (h :: ds)) && wfs ds
  | _ => false
def wfs : List PyData → Bool
  | [] => true
  | d :: ds => wf d && wfs ds
end
mutual
def sz : PyData → Int
  | .tuple (_ :: ds) => 1 + szs ds
  | _ => 1
def szs : List PyData → Int
  | [] => 0
  | d :: ds => sz d + szs ds
end
mutual
def ht : PyData → Int
  | .tuple (_ :: ds) => 1 + hts ds
  | _ => 1
def hts : List PyData → Int
  | [] => 0
  | d :: ds => max (ht d) (hts ds)
end
theorem shorts_mem : ∀ {ds : List PyData} {d : PyData}, shorts ds = true → d ∈ ds → short d = true
  | [], _, _, h => nomatch h
  | e :: ds, d, h, m => by
    rw [shorts, Bool.and_eq_true] at h
    rcases List.mem_cons.mp m with rfl | m
    · exact h.1
    · exact shorts_mem h.2 m
theorem short_hd {d : PyData} (h : short d = true) : hdOk d := by
  unfold hdOk
  split
  · rw [short, shorts, short, Bool.and_eq_true] at h
    exact of_decide_eq_true h.1
  · trivial
mutual
theorem sz_pos : ∀ d : PyData, 1 ≤ sz d
  | .none => by simp [sz]
  | .bool _ => by simp [sz]
  | .int _ => by simp [sz]
  | .str _ => by simp [sz]
  | .list _ => by simp [sz]
  | .dict _ => by simp [sz]
  | .tuple [] => by simp [sz]
  | .tuple (_ :: ds) => by rw [sz]; have := szs_pos ds; omega
theorem szs_pos : ∀ ds : List PyData, 0 ≤ szs ds
  | [] => by rw [szs]; omega
  | d :: ds => by rw [szs]; have := sz_pos d; have := szs_pos ds; omega
end
theorem hts_pos : ∀ ds : List PyData, 0 ≤ hts ds
  | [] => by rw [hts]; omega
  | d :: ds => by rw [hts]; have := hts_pos ds; omega
theorem ht_pos (d : PyData) : 1 ≤ ht d := by
  unfold ht
  split
  · have := hts_pos ‹_›; omega
  · omega
theorem wf_node {d : PyData} (h : wf d = true) : isNode d = true := by
  unfold wf at h
  split at h
  · exact h
  · exact (Bool.and_eq_true_iff.mp h).1
  · exact nomatch h
/-- one waiting piece is well -/
def Pc (p : PyData × Int) : Prop := wf p.1 = true ∧ p.2 + ht p.1 ≤ 31
def tot (st : List (PyData × Int)) : Int := (st.map fun p => sz p.1).sum
/-- the waiting pieces are well, and there is room for all -/
def Ps (st : List (PyData × Int)) (c : Int) : Prop := (∀ p ∈ st, Pc p) ∧ tot st + c ≤ 200
def isShape (d : PyData) : Bool := wf d && decide (sz d ≤ 200) && decide (ht d ≤ 30)
theorem tot_pos (st : List (PyData × Int)) : 0 ≤ tot st := by
  induction st with
  | nil => exact Int.le_refl 0
  | cons p st ih =>
    have h : tot (p :: st) = sz p.1 + tot st := by unfold tot; rw [List.map_cons, List.sum_cons]
    have := sz_pos p.1
    omega
theorem tot_app (a b : List (PyData × Int)) : tot (a ++ b) = tot a + tot b := by
  unfold tot; rw [List.map_append, List.sum_append]
theorem tot_one (p : PyData × Int) : tot [p] = sz p.1 := by
  unfold tot; rw [List.map_cons, List.sum_cons]; simp
theorem ps_start (d : PyData) : Ps [(d, 1)] 0 ↔ isShape d = true := by
  unfold Ps isShape
  rw [tot_one]
  simp only [List.mem_singleton, forall_eq, Pc, Bool.and_eq_true, decide_eq_true_eq]
  constructor
  · rintro ⟨⟨a, b⟩, c⟩; exact ⟨⟨a, by omega⟩, by omega⟩
  · rintro ⟨⟨a, b⟩, c⟩; exact ⟨⟨a, by omega⟩, by omega⟩
theorem ps_many {st : List (PyData × Int)} {p : PyData × Int} {c : Int} (h : 200 < c + 1) : ¬ Ps (st ++ [p]) c := by
  rintro ⟨_, q⟩
  rw [tot_app, tot_one] at q
  have := sz_pos p.1
  have := tot_pos st
  omega
theorem ps_deep {st : List (PyData × Int)} {p : PyData × Int} {c : Int} (h : 30 < p.2) : ¬ Ps (st ++ [p]) c := by
  rintro ⟨q, _⟩
  have := (q p (by simp)).2
  have := ht_pos p.1
  omega
theorem ps_bad {st : List (PyData × Int)} {p : PyData × Int} {c : Int} (h : isNode p.1 = false) : ¬ Ps (st ++ [p]) c := by
  rintro ⟨q, _⟩
  have := wf_node (q p (by simp)).1
  rw [h] at this
  exact nomatch this
theorem ps_leaf {st : List (PyData × Int)} {i l : Int} {c : Int} (h : isNode (.int i) = true) (hl : l ≤ 30) : Ps (st ++ [(.int i, l)]) c ↔ Ps st (c + 1) := by
  unfold Ps
  rw [tot_app, tot_one]
  have h1 : sz (.int i) = 1 := by simp [sz]
  have h2 : ht (.int i) = 1 := by simp [ht]
  constructor
  · rintro ⟨a, b⟩
    exact ⟨fun p hp => a p (List.mem_append_left _ hp), by rw [h1] at b; omega⟩
  · rintro ⟨a, b⟩
    refine ⟨fun p hp => ?_, by rw [h1]; omega⟩
    rcases List.mem_append.mp hp with hp | hp
    · exact a p hp
    · cases List.mem_singleton.mp hp
      exact ⟨h, by show l + ht (.int i) ≤ 31; omega⟩
theorem tot_parts (l : Int) (ds : List PyData) : tot (ds.map fun d => (d, l)) = szs ds := by
  induction ds with
  | nil => rw [szs]; rfl
  | cons d ds ih => rw [List.map_cons, szs, ← ih]; unfold tot; rw [List.map_cons, List.sum_cons]
theorem pc_parts (l : Int) (hl : l ≤ 31) (ds : List PyData) : (∀ p ∈ ds.map fun d => (d, l), Pc p) ↔ wfs ds = true ∧ l + hts ds ≤ 31 := by
  induction ds with
  | nil =>
    rw [wfs, hts]
    exact ⟨fun _ => ⟨rfl, by omega⟩, fun _ p hp => nomatch hp⟩
  | cons d ds ih =>
    rw [List.map_cons, List.forall_mem_cons, ih, wfs, hts, Bool.and_eq_true]
    unfold Pc
    constructor
    · rintro ⟨⟨a, b⟩, c, d⟩
      exact ⟨⟨a, c⟩, by dsimp only at b; omega⟩
    · rintro ⟨⟨a, c⟩, b⟩
      exact ⟨⟨a, by dsimp only; omega⟩, c, by omega⟩
theorem ps_tup {st : List (PyData × Int)} {h : PyData} {ds : List PyData} {l c : Int} (hn : isNode (.tuple (h :: ds)) = true) (hl : l ≤ 30) : Ps (st ++ [(.tuple (h :: ds), l)]) c ↔ Ps (st ++ ds.map fun d => (d, l + 1)) (c + 1) := by
  unfold Ps
  rw [tot_app, tot_one, tot_app, tot_parts, List.forall_mem_append, List.forall_mem_append, pc_parts (l + 1) (by omega), List.forall_mem_singleton]
  have h1 : sz (.tuple (h :: ds)) = 1 + szs ds := by rw [sz]
  have h2 : ht (.tuple (h :: ds)) = 1 + hts ds := by rw [ht]
  have h3 : wf (.tuple (h :: ds)) = wfs ds := by rw [wf, hn, Bool.true_and]
  unfold Pc
  dsimp only
  rw [h1, h2, h3]
  constructor
  · rintro ⟨⟨a, b, c⟩, d⟩; exact ⟨⟨a, b, by omega⟩, by omega⟩
  · rintro ⟨⟨a, b, c⟩, d⟩; exact ⟨⟨a, b, by omega⟩, by omega⟩
theorem node_len {h : PyData} {ds : List PyData} (hn : isNode (.tuple (h :: ds)) = true) : ds.length ≤ 3 := by
  unfold isNode at hn
  split at hn
  · rename_i e; exact nomatch e
  · rename_i e
    cases e
    split at hn
    · have := of_decide_eq_true hn; omega
    · exact of_decide_eq_true (Bool.and_eq_true_iff.mp hn).1
  · exact nomatch hn
end K01
namespace K01
open PySem L2 DW PyProof.Rows
mutual
def occ : PyData → List Int
  | .int i => [i]
  | .tuple (_ :: ds) => occs ds
  | _ => []
def occs : List PyData → List Int
  | [] => []
  | d :: ds => occ d ++ occs ds
end
theorem occs_app (a b : List PyData) : occs (a ++ b) = occs a ++ occs b := by
  induction a with
  | nil => rw [occs]; rfl
  | cons d ds ih => rw [List.cons_append, occs, occs, ih, List.append_assoc]
theorem szs_app (a b : List PyData) : szs (a ++ b) = szs a + szs b := by
  induction a with
  | nil => rw [szs, List.nil_append]; omega
  | cons d ds ih => rw [List.cons_append, szs, szs, ih]; omega
theorem szs_rev (a : List PyData) : szs a.reverse = szs a := by
  induction a with
  | nil => rfl
  | cons d ds ih => rw [List.reverse_cons, szs_app, ih, szs, szs, szs]; omega
theorem wfs_mem : ∀ {ds : List PyData} {d : PyData}, wfs ds = true → d ∈ ds → wf d = true
  | [], _, _, h => nomatch h
  | e :: ds, d, h, m => by
    rw [wfs, Bool.and_eq_true] at h
    rcases List.mem_cons.mp m with rfl | m
    · exact h.1
    · exact wfs_mem h.2 m
theorem hts_mem : ∀ {ds : List PyData} {d : PyData}, d ∈ ds → ht d ≤ hts ds
  | [], _, h => nomatch h
  | e :: ds, d, m => by
    rw [hts]
    rcases List.mem_cons.mp m with rfl | m
    · omega
    · have := hts_mem m; omega
theorem szs_mem : ∀ {ds : List PyData} {d : PyData}, d ∈ ds → sz d ≤ szs ds
  | [], _, h => nomatch h
  | e :: ds, d, m => by
    rw [szs]
    have := szs_pos ds
    have := sz_pos e
    rcases List.mem_cons.mp m with rfl | m
    · omega
    · have := szs_mem m; omega
theorem szs_sum : ∀ ds : List PyData, (ds.map sz).sum = szs ds
  | [] => by rw [szs]; rfl
  | d :: ds => by rw [List.map_cons, List.sum_cons, szs, szs_sum ds]
theorem szs_len : ∀ ds : List PyData, (ds.length : Int) ≤ szs ds
  | [] => by rw [szs]; exact Int.le_refl 0
  | d :: ds => by rw [szs, List.length_cons]; have := szs_len ds; have := sz_pos d; omega
theorem wf_cases {d : PyData} (h : wf d = true) : (∃ i, d = .int i) ∨ ∃ e ds, d = .tuple (e :: ds) ∧ wfs ds = true ∧ isNode d = true := by
  unfold wf at h
  split at h
  · exact .inl ⟨_, rfl⟩
  · exact .inr ⟨_, _, rfl, (Bool.and_eq_true_iff.mp h).2, (Bool.and_eq_true_iff.mp h).1⟩
  · exact nomatch h
theorem sz_int (i : Int) : sz (.int i) = 1 := by simp [sz]
theorem ht_int (i : Int) : ht (.int i) = 1 := by simp [ht]
end K01
namespace K01
open PySem L2 DW PyProof.Rows
def ins (acc : List Int) (x : Int) : List Int := if x ∈ acc then acc else acc ++ [x]
def nub (xs : List Int) : List Int := xs.foldl ins []
theorem nub_snoc (xs : List Int) (x : Int) : nub (xs ++ [x]) = ins (nub xs) x := by
  unfold nub; rw [List.foldl_append]; rfl
theorem mem_ins {acc : List Int} {x y : Int} : y ∈ ins acc x ↔ y ∈ acc ∨ y = x := by
  unfold ins
  split
  · exact ⟨.inl, fun h => h.elim id fun e => e ▸ ‹_›⟩
  · rw [List.mem_append, List.mem_singleton]
theorem foldl_ins (A b : List Int) : b.foldl ins A = A ++ (nub b).filter fun x => !decide (x ∈ A) := by
  induction h : b.length generalizing b with
  | zero => rw [List.length_eq_zero_iff.mp h]; simp [nub]
  | succ n ih =>
    rcases List.eq_nil_or_concat b with rfl | ⟨b, x, rfl⟩
    · simp [nub]
    rw [List.concat_eq_append] at *
    rw [List.foldl_append, ih b (by simpa using h), nub_snoc]
    show ins _ x = _
    unfold ins
    by_cases h1 : x ∈ A
    · rw [if_pos (List.mem_append_left _ h1)]
      split
      · rfl
      · rw [List.filter_append]; simp [h1]
    · by_cases h2 : x ∈ nub b
      · rw [if_pos (List.mem_append_right _ (List.mem_filter.mpr ⟨h2, by simp [h1]⟩)), if_pos h2]
      · rw [if_neg h2, if_neg, List.filter_append]
        · simp [h1]
        · intro h
          rcases List.mem_append.mp h with h | h
          · exact h1 h
          · exact h2 (List.mem_filter.mp h).1
theorem nub_app (a b : List Int) : nub (a ++ b) = nub a ++ (nub b).filter fun x => !decide (x ∈ nub a) := by
  rw [nub, List.foldl_append]; exact foldl_ins _ _
theorem ins_len (acc : List Int) (x : Int) : (ins acc x).length ≤ acc.length + 1 := by
  unfold ins
  split
  · omega
  · rw [List.length_append, List.length_singleton]; omega
theorem nub_len (a : List Int) : (nub a).length ≤ a.length := by
  induction h : a.length generalizing a with
  | zero => rw [List.length_eq_zero_iff.mp h]; simp [nub]
  | succ n ih =>
    rcases List.eq_nil_or_concat a with rfl | ⟨b, x, rfl⟩
    · simp [nub]
    rw [List.concat_eq_append] at *
    rw [nub_snoc]
    have := ins_len (nub b) x
    have := ih b (by simpa using h)
    rw [List.length_append, List.length_singleton] at h
    omega
mutual
theorem occ_len : ∀ d : PyData, ((occ d).length : Int) ≤ sz d
  | .none => by simp [occ, sz]
  | .bool _ => by simp [occ, sz]
  | .int _ => by simp [occ, sz]
  | .str _ => by simp [occ, sz]
  | .list _ => by simp [occ, sz]
  | .dict _ => by simp [occ, sz]
  | .tuple [] => by simp [occ, sz]
  | .tuple (_ :: ds) => by rw [occ, sz]; have := occs_len ds; omega
theorem occs_len : ∀ ds : List PyData, ((occs ds).length : Int) ≤ szs ds
  | [] => by rw [occs, szs]; exact Int.le_refl 0
  | d :: ds => by rw [occs, szs, List.length_append]; have := occ_len d; have := occs_len ds; omega
end
theorem putD_nub (l : List Int) (k : Int) (d : PyData) : putD (l.map fun k => ((.inl k : Key), d)) (.inl k) d = (ins l k).map fun k => ((.inl k : Key), d) := by
  unfold putD ins
  have h : ((l.map fun k => ((.inl k : Key), d)).any fun kv => decide (kv.1 = .inl k)) = decide (k ∈ l) := by
    induction l with
    | nil => rfl
    | cons a l ih =>
      rw [List.map_cons, List.any_cons, ih]
      by_cases e : a = k
      · subst e; simp
      · have e2 : ¬ k = a := fun z => e z.symm
        have e3 : ¬ (Sum.inl a : Key) = Sum.inl k := fun z => e (Sum.inl.inj z)
        simp [e2, e3]
  rw [h]
  by_cases hk : k ∈ l
  · rw [if_pos (decide_eq_true hk), if_pos hk, List.map_map]
    refine List.map_congr_left fun a _ => ?_
    show (if (Sum.inl a : Key) = Sum.inl k then _ else _) = _
    split
    · rename_i e; rfl
    · rfl
  · rw [if_neg (by rw [decide_eq_false hk]; exact fun z => nomatch z), if_neg hk, List.map_append]
    rfl
theorem ints_shaped (l : List Int) : SeqAt.shaped (.list (l.map .int)) = true := by
  have h : PyData.canLayAll0 (l.map .int) = true ∧ PyData.depthAll (l.map .int) = 0 := by
    induction l with
    | nil => exact ⟨rfl, rfl⟩
    | cons a l ih =>
      rw [List.map_cons, PyData.canLayAll0, PyData.depthAll, ih.1, ih.2]
      exact ⟨rfl, rfl⟩
  unfold SeqAt.shaped
  rw [PyData.canLay0, h.1, PyData.depth, h.2]
  rfl
theorem ints_any (l : List Int) (i : Int) : ((l.map PyData.int).any fun z => PyData.eqv z (.int i)) = decide (i ∈ l) := by
  induction l with
  | nil => rfl
  | cons a l ih =>
    rw [List.map_cons, List.any_cons, ih, PyData.eqv]
    by_cases e : a = i
    · subst e; simp
    · have e2 : ¬ i = a := fun z => e z.symm
      simp [e, e2]
end K01
namespace K01
open PySem L2 DW PyProof.Rows
local macro_rules | `(tactic| walk_at "dv") => `(tactic| first | exact Or.inl rfl | exact Or.inr (Or.inl rfl) | exact Or.inr (Or.inr rfl))
local macro_rules | `(tactic| walk_at "dl") => `(tactic| first | exact Or.inl rfl | exact Or.inr rfl)
local macro_rules | `(tactic| walk_at "wv") => `(tactic| first | with_reducible assumption | walk_at "dv")
local macro_rules | `(tactic| walk_at "wa") => `(tactic| with_reducible assumption)
local macro_rules | `(tactic| walk_at "rm") => `(tactic| first | with_reducible assumption | (apply Rm.blk; with_reducible assumption))
local macro_rules | `(tactic| walk_at "dn") => `(tactic| first
  | refine nm_dat (by walk_at "wa") (by walk_at "wv") (by rfl) ?_ | refine nm_own (by walk_at "wa") (by walk_at "wv") (by rfl) ?_ | refine nm_drw (by walk_at "wa") (by walk_at "wv") (by rfl) ?_ | refine nm_scr (by walk_at "wa") (by walk_at "wv") (by rfl) ?_
  | refine de_globI (by walk_at "wa") rfl ?_ | refine de_globS (by walk_at "wa") rfl ?_)
local macro_rules | `(tactic| walk_at "dci") => `(tactic| first
  | ((with_reducible show DE _ _ (Expr.Call _ [_, Expr.Name "int" _] _ _) _); refine de_is kInt bt_int (by walk_at "wa") (by walk_at "wa") ?_)
  | ((with_reducible show DE _ _ (Expr.Call _ [_, Expr.Name "bool" _] _ _) _); refine de_is kBool bt_bool (by walk_at "wa") (by walk_at "wa") ?_)
  | ((with_reducible show DE _ _ (Expr.Call _ [_, Expr.Name "str" _] _ _) _); refine de_is kStr bt_str (by walk_at "wa") (by walk_at "wa") ?_)
  | ((with_reducible show DE _ _ (Expr.Call _ [_, Expr.Name "tuple" _] _ _) _); refine de_is kTup bt_tuple (by walk_at "wa") (by walk_at "wa") ?_)
  | ((with_reducible show DE _ _ (Expr.Call _ [_, Expr.Name "list" _] _ _) _); refine de_is kLst bt_list (by walk_at "wa") (by walk_at "wa") ?_)
  | ((with_reducible show DE _ _ (Expr.Call _ [_, Expr.Tuple [Expr.Name "tuple" _, Expr.Name "list" _] _ _] _ _) _); refine de_is2 kTup kLst bt_tuple bt_list (by walk_at "wa") (by walk_at "wa") (by walk_at "wa") ?_)
  | ((with_reducible show DE _ _ (Expr.Call _ [_, Expr.Tuple [Expr.Name "int" _, Expr.Name "tuple" _] _ _] _ _) _); refine de_is2 kInt kTup bt_int bt_tuple (by walk_at "wa") (by walk_at "wa") (by walk_at "wa") ?_))
local macro_rules | `(tactic| walk_at "dc") => `(tactic| first
  | ((with_reducible show DE _ _ (Expr.Call (Expr.Name "isinstance" _) _ _ _) _); walk_at "dci")
  | ((with_reducible show DE _ _ (Expr.Call (Expr.Name "len" _) [Expr.Name _ _] _ _) _); refine len_scr (by walk_at "wa") (by walk_at "wv") (by rfl) (by walk_at "wa") ?_)
  | ((with_reducible show DE _ _ (Expr.Call (Expr.Name "len" _) _ _ _) _); refine de_b1 bb_len (by walk_at "wa") ?_)
  | ((with_reducible show DE _ _ (Expr.Call (Expr.Name "abs" _) _ _ _) _); refine de_b1 bb_abs (by walk_at "wa") ?_)
  | ((with_reducible show DE _ _ (Expr.Call (Expr.Name "repr" _) _ _ _) _); refine de_b1 bb_repr (by walk_at "wa") ?_)
  | ((with_reducible show DE _ _ (Expr.Call (Expr.Name "all" _) _ _ _) _); refine de_b1 bb_all (by walk_at "wa") ?_)
  | ((with_reducible show DE _ _ (Expr.Call (Expr.Name "any" _) _ _ _) _); refine de_b1 bb_any (by walk_at "wa") ?_)
  | ((with_reducible show DE _ _ (Expr.Call (Expr.Name "sum" _) _ _ _) _); refine de_b1 bb_sum (by walk_at "wa") ?_)
  | ((with_reducible show DE _ _ (Expr.Call (Expr.Name "max" _) _ _ _) _); refine de_b1 bb_max (by walk_at "wa") ?_)
  | ((with_reducible show DE _ _ (Expr.Call (Expr.Name "int" _) _ _ _) _); refine de_t1 bt_int (by walk_at "wa") ?_)
  | ((with_reducible show DE _ _ (Expr.Call (Expr.Name "tuple" _) _ _ _) _); refine de_t1 bt_tuple (by walk_at "wa") ?_)
  | ((with_reducible show DE _ _ (Expr.Call (Expr.Name "min" _) _ _ _) _); refine de_b2 bb_min (by walk_at "wa") ?_)
  | ((with_reducible show DE ⟨blkX _ _ _ _ _ _ _, _, _⟩ _ _ _); refine de_fB (by walk_at "wa") ?_)
  | refine de_f (by walk_at "wa") ?_)
local macro_rules | `(tactic| walk_at "de") => `(tactic| first
  | ((with_reducible show DE _ _ (Expr.Name _ _) _); walk_at "dn")
  | ((with_reducible show DE _ _ (Expr.Call (Expr.Name _ _) _ _ _) _); walk_at "dc")
  | ((with_reducible show DE _ _ (Expr.Constant (Const.int _) _ _) _); refine de_int ?_)
  | ((with_reducible show DE _ _ (Expr.Constant (Const.str _) _ _) _); refine de_str ?_)
  | ((with_reducible show DE _ _ (Expr.Constant (Const.bool _) _ _) _); refine de_bl ?_)
  | ((with_reducible show DE _ _ (Expr.Constant Const.none _ _) _); refine de_non ?_)
  | ((with_reducible show DE _ _ (Expr.Compare _ [_] _ _) _); refine de_cmp ?_)
  | ((with_reducible show DE _ _ (Expr.Compare _ [_, _] _ _) _); refine de_chain ?_)
  | ((with_reducible show DE _ _ (Expr.BinOp (Expr.List _ _) Operator.Add _ _) _); refine DL.de (dl_op ?_))
  | ((with_reducible show DE _ _ (Expr.BinOp _ Operator.Add (Expr.List _ _) _) _); refine DL.de (dl_op ?_))
  | ((with_reducible show DE _ _ (Expr.BinOp _ _ _ _) _); refine de_op ?_)
  | ((with_reducible show DE _ _ (Expr.Dict [] [] _) _); refine de_dic0 ?_)
  | ((with_reducible show DE _ _ (Expr.List _ _) _); refine DL.de (dl_list ?_))
  | ((with_reducible show DE _ _ (Expr.Subscript _ (Expr.Slice _ _ (some _) _) _) _); refine de_revT ?_)
  | ((with_reducible show DE _ _ (Expr.Subscript (Expr.Name _ _) (Expr.Slice _ _ none _) _) _); first
    | refine de_slT (nm_dat (d := PyData.tuple _) (by walk_at "wa") (by walk_at "wv") (by rfl) ?_)
    | refine de_slS (nm_dat (d := PyData.str _) (by walk_at "wa") (by walk_at "wv") (by rfl) ?_)
    | refine DL.de (dl_slL (nm_dat (d := PyData.list _) (by walk_at "wa") (by walk_at "wv") (by rfl) ?_)))
  | ((with_reducible show DE _ _ (Expr.Subscript _ (Expr.Slice _ _ none _) _) _); refine de_slT ?_)
  | ((with_reducible show DE _ _ (Expr.Subscript (Expr.Name _ _) (Expr.Constant (Const.int _) _ _) _) _); refine de_drwIx (by walk_at "wa") (by walk_at "wv") (by rfl) (by decide) ?_)
  | ((with_reducible show DE _ _ (Expr.Subscript _ _ _) _); refine de_ix ?_)
  | ((with_reducible show DE _ _ (Expr.Tuple _ _ _) _); refine de_tuple ?_)
  | ((with_reducible show DE _ _ (Expr.BoolOp _ [_] _) _); refine de_one ?_)
  | ((with_reducible show DE _ _ (Expr.BoolOp BoolOp.And _ _) _); refine de_and ?_)
  | ((with_reducible show DE _ _ (Expr.BoolOp BoolOp.Or _ _) _); refine de_or ?_)
  | ((with_reducible show DE _ _ (Expr.UnaryOp UnaryOp.Not _ _) _); refine de_not ?_)
  | ((with_reducible show DE _ _ (Expr.UnaryOp UnaryOp.USub _ _) _); refine de_neg ?_)
  | ((with_reducible show DE _ _ (Expr.IfExp _ _ _ _) _); refine de_if ?_))
local macro_rules | `(tactic| walk_at "dop") => `(tactic| first
  | ((with_reducible show DOp _ (binaryOp Operator.Add) (PyData.int _) (PyData.int _) _); refine do_add ?_)
  | ((with_reducible show DOp _ (binaryOp Operator.Sub) (PyData.int _) (PyData.int _) _); refine do_sub ?_)
  | ((with_reducible show DOp _ (binaryOp Operator.Mult) (PyData.int _) (PyData.int _) _); first | refine do_mul ?_ (by first | exact Or.inl ⟨by decide, by decide⟩ | exact Or.inr ⟨by decide, by decide⟩) | refine do_mul ?_ ?_)
  | ((with_reducible show DOp _ (binaryOp Operator.FloorDiv) (PyData.int _) (PyData.int _) _); first | refine do_fdiv ?_ ⟨by first | decide | with_reducible assumption | omega, by first | decide | with_reducible assumption | omega⟩ | refine do_fdiv ?_ ?_)
  | ((with_reducible show DOp _ (binaryOp Operator.Mod) (PyData.int _) (PyData.int _) _); first | refine do_mod ?_ (by first | decide | with_reducible assumption | omega) | refine do_mod ?_ ?_)
  | ((with_reducible show DOp _ (binaryOp Operator.Pow) (PyData.int _) (PyData.int _) _); first | refine do_pow ?_ ⟨by decide, by decide, by decide⟩ | refine do_pow ?_ ?_)
  | ((with_reducible show DOp _ (compareOp CmpOp.Lt) (PyData.int _) (PyData.int _) _); refine do_lt ?_)
  | ((with_reducible show DOp _ (compareOp CmpOp.LtE) (PyData.int _) (PyData.int _) _); refine do_le ?_)
  | ((with_reducible show DOp _ (compareOp CmpOp.Gt) (PyData.int _) (PyData.int _) _); refine do_gt ?_)
  | ((with_reducible show DOp _ (compareOp CmpOp.GtE) (PyData.int _) (PyData.int _) _); refine do_ge ?_)
  | ((with_reducible show DOp _ (compareOp CmpOp.Eq) (PyData.int _) (PyData.int _) _); refine do_eqI ?_)
  | ((with_reducible show DOp _ (compareOp CmpOp.NotEq) (PyData.int _) (PyData.int _) _); refine do_neI ?_)
  | ((with_reducible show DOp _ (compareOp CmpOp.Eq) (PyData.str _) (PyData.str _) _); refine do_eqS ?_)
  | ((with_reducible show DOp _ (compareOp CmpOp.NotEq) (PyData.str _) (PyData.str _) _); refine do_neS ?_)
  | ((with_reducible show DOp _ (compareOp CmpOp.Eq) (PyData.bool _) (PyData.bool _) _); refine do_eqB ?_)
  | ((with_reducible show DOp _ (compareOp CmpOp.NotEq) (PyData.bool _) (PyData.bool _) _); refine do_neB ?_)
  | ((with_reducible show DOp _ (compareOp CmpOp.NotEq) (PyData.list _) (PyData.list []) _); refine do_neL0 (by walk_at "rm") ?_)
  | ((with_reducible show DOp _ (compareOp CmpOp.Eq) (PyData.list _) (PyData.list []) _); refine do_eqL0 (by walk_at "rm") ?_)
  | ((with_reducible show DOp _ (compareOp CmpOp.Eq) (PyData.tuple _) (PyData.tuple []) _); refine do_eqT0 (by walk_at "rm") ?_)
  | ((with_reducible show DOp _ (compareOp CmpOp.Is) _ PyData.none _); refine do_isN ?_)
  | ((with_reducible show DOp _ (compareOp CmpOp.IsNot) _ PyData.none _); refine do_notN ?_)
  | ((with_reducible show DOp _ (compareOp CmpOp.In) (PyData.str ⟨#[_]⟩) (PyData.str _) _); refine do_inS ?_)
  | ((with_reducible show DOp _ (compareOp CmpOp.NotIn) (PyData.str ⟨#[_]⟩) (PyData.str _) _); refine do_ninS ?_))
local macro_rules | `(tactic| walk_at "dca") => `(tactic| first
  | ((with_reducible show DCall _ (Value.builtin "len") [PyData.tuple _] _); refine dc_len (n := List.length _) ?_ rfl)
  | ((with_reducible show DCall _ (Value.builtin "len") [PyData.list _] _); refine dc_len (n := List.length _) ?_ rfl)
  | ((with_reducible show DCall _ (Value.builtin "len") [PyData.str _] _); refine dc_len ?_ ⟨rfl, ?_⟩)
  | ((with_reducible show DCall _ (Value.builtin "abs") _ _); refine dc_abs ?_)
  | ((with_reducible show DCall _ (Value.builtin "min") _ _); refine dc_min2 rfl ?_)
  | ((with_reducible show DCall _ (Value.type "int") [PyData.bool _] _); refine dc_intB ?_)
  | ((with_reducible show DCall _ (Value.type "tuple") [PyData.list _] _); refine dc_tupL ?_)
  | ((with_reducible show DCall _ (Value.type "tuple") [PyData.tuple _] _); refine dc_tupT ?_))
local macro_rules | `(tactic| walk_at "dix") => `(tactic| first
  | ((with_reducible show DIx _ _ (PyData.int 0) _); first | refine dix_t0 ?_ | refine dix_l0 ?_)
  | ((with_reducible show DIx _ _ (PyData.int 1) _); first | refine dix_t1 ?_ | refine dix_l1 ?_)
  | ((with_reducible show DIx _ _ (PyData.int 2) _); first | refine dix_t2 ?_ | refine dix_l2 ?_))
local macro_rules | `(tactic| walk_at "dt") => `(tactic| first
  | ((with_reducible show DT _ _ (Expr.BoolOp BoolOp.And _ _) _); refine DW.DW.dt (dw_and ?_))
  | ((with_reducible show DT _ _ (Expr.BoolOp BoolOp.Or _ _) _); refine DW.DW.dt (dw_or ?_))
  | ((with_reducible show DT _ _ (Expr.Compare _ [_] _ _) _); refine dt_cmp ?_)
  | ((with_reducible show DT _ _ (Expr.Compare _ [_, _] _ _) _); refine dt_chain ?_)
  | ((with_reducible show DT _ _ (Expr.UnaryOp UnaryOp.Not _ _) _); refine dt_not ?_)
  | refine dt_val ?_)
local macro_rules | `(tactic| walk_at "d1") => `(tactic| first
  | ((with_reducible show DE _ _ _ _); walk_at "de")
  | ((with_reducible show DT _ _ _ _); walk_at "dt")
  | ((with_reducible show DOp _ _ _ _ _); walk_at "dop")
  | ((with_reducible show DOpL _ (binaryOp Operator.Add) (PyData.list _) (PyData.list _) _); refine dol_cat ?_ ?_)
  | ((with_reducible show DCall _ _ _ _); walk_at "dca")
  | ((with_reducible show DIx _ _ _ _); walk_at "dix")
  | ((with_reducible show DW.DW _ _ (Expr.BoolOp BoolOp.And [_] _) _); refine dw_and1 ?_)
  | ((with_reducible show DW.DW _ _ (Expr.BoolOp BoolOp.Or [_] _) _); refine dw_or1 ?_)
  | ((with_reducible show DW.DW _ _ (Expr.BoolOp BoolOp.And _ _) _); refine dw_and ?_)
  | ((with_reducible show DW.DW _ _ (Expr.BoolOp BoolOp.Or _ _) _); refine dw_or ?_)
  | ((with_reducible show DAd _ _ [] _); refine dad_nil ?_)
  | ((with_reducible show DAd _ _ _ _); refine dad_cons ?_)
  | ((with_reducible show DAv _ _ [] _); refine dav_nil ?_)
  | ((with_reducible show DAv _ _ _ _); refine dav_cons ?_)
  | ((with_reducible show DO _ _ none _); refine do_none ?_)
  | ((with_reducible show DO _ _ _ _); refine do_some ?_)
  | ((with_reducible show ∃ dx dy, DatOf _ (EV.dat _) dx ∧ DatOf _ (EV.dat _) dy ∧ _); refine ⟨_, _, .dat, .dat, ?_⟩)
  | ((with_reducible show ∃ dx dy, DatOf _ (EV.dat _) dx ∧ (EV.dat _) = EV.dat dy ∧ _); refine ⟨_, _, .dat, rfl, ?_⟩)
  | ((with_reducible show ∃ dx dy, DatOf _ _ dx ∧ DatOf _ _ dy ∧ _); first | refine ⟨_, _, .own rfl, .dat, ?_⟩ | refine ⟨_, _, .dat, .own rfl, ?_⟩ | refine ⟨_, _, .own rfl, .own rfl, ?_⟩)
  | ((with_reducible show ∃ dx, DatOf _ (EV.dat _) dx ∧ _); refine ⟨_, .dat, ?_⟩)
  | ((with_reducible show ∃ dx, DatOf _ _ dx ∧ _); refine ⟨_, .own rfl, ?_⟩)
  | ((with_reducible show ∃ d, _ = _ ∧ _); refine ⟨_, rfl, ?_⟩)
  | ((with_reducible show ∃ av : AV, _ ∧ _); first | refine ⟨_, Or.inl ⟨rfl, rfl⟩, ?_⟩ | refine ⟨_, Or.inr ⟨_, rfl, rfl⟩, ?_⟩))
local macro_rules | `(tactic| walk_at "db") => `(tactic| first
  | refine ⟨fun _ => ?_, fun h => Bool.noConfusion h⟩ | refine ⟨fun h => Bool.noConfusion h, fun _ => ?_⟩)
local macro_rules | `(tactic| walk_at "dst") => `(tactic| first
  | ((with_reducible show DS _ _ (Stmt.If _ _ _ _) _ _ _ _); refine ds_if ?_)
  | ((with_reducible show DS _ _ (Stmt.Expr _ _) _ _ _ _); refine ds_expr ?_)
  | ((with_reducible show DS _ _ (Stmt.Pass _) _ _ _ _); refine ds_pass ?_)
  | ((with_reducible show DS _ _ (Stmt.Assign [Expr.Subscript (Expr.Name _ _) (Expr.Constant (Const.int _) _ _) _] _ _) _ _ _ _); refine ds_drwSet (by walk_at "wa") (by walk_at "wv") ?_)
  | ((with_reducible show DS _ _ (Stmt.Return (some (Expr.ListComp _ _ _ _)) _) _ _ _ _); refine ds_retL ?_)
  | ((with_reducible show DS _ _ (Stmt.Return (some (Expr.List _ _)) _) _ _ _ _); refine ds_retL (dl_list ?_))
  | ((with_reducible show DS _ _ (Stmt.Return (some (Expr.Name _ _)) _) _ _ _ _); first
    | refine ds_ret (nm_dat (by walk_at "wa") (by walk_at "wv") (by rfl) ?_)
    | refine ds_retO (nm_own (by walk_at "wa") (by walk_at "wv") (by rfl) ⟨_, _, rfl, rfl, ?_⟩)
    | refine ds_ret ?_)
  | ((with_reducible show DS _ _ (Stmt.Return (some _) _) _ _ _ _); refine ds_ret ?_)
  | ((with_reducible show DS _ _ (Stmt.Assign [Expr.Name _ _] _ _) _ _ _ _); (fail_if_success (with_reducible show DS _ _ (Stmt.Assign [Expr.Name _ _] (Expr.ListComp _ _ _ _) _) _ _ _ _)); (fail_if_success (with_reducible show DS _ _ (Stmt.Assign [Expr.Name _ _] (Expr.List _ _) _) _ _ _ _)); refine st_set (by walk_at "wa") (by walk_at "wa") (by walk_at "wa") ?_))
local macro_rules | `(tactic| walk_at "e") => `(tactic| repeat (first | walk_at "d1" | walk_at "db"))
local macro_rules | `(tactic| walk_at "d") => `(tactic| repeat (first | walk_at "d1" | walk_at "db" | ((with_reducible show DS _ _ _ _ _ _ _); walk_at "dst") | ((with_reducible show DB _ _ [] _ _ _ _); refine db_nil ?_) | ((with_reducible show DB _ _ _ _ _ _ _); refine db_cons ?_)))
local macro_rules | `(tactic| walk_at "ds") => `(tactic| refine st_set (by walk_at "wa") (by walk_at "wa") (by walk_at "wa") ?_)
local macro_rules | `(tactic| walk_at "dsl") => `(tactic| refine st_setL (by walk_at "wa") (by walk_at "wa") (by walk_at "wa") ?_)
local macro_rules | `(tactic| walk_at "dz") => `(tactic| dsimp (config := { proj := false }) only [List.set, List.map, List.replicate, List.cons_append, List.nil_append, AV.sv])
section
variable {P : Program} {w : World} {K : PySem.W.Frag} {mg : Str → Option Value} {base : Heap}
theorem ok_is_node {k : Nat} (T : Tp K mg) (F_is_shape_name : Fn P w K mg base k "is_shape_name" fs_is_shape_name) : Fn P w K mg base (k + 1) "is_node" fs_is_node := by
  refine T.d_is_node.ok sc_is_node (fun avs R h => ?_) (fun f cdv A outer s H E dr avs R hr hgd h => ?_)
  · obtain ⟨d, rfl, _⟩ := h
    rfl
  obtain ⟨d, rfl, hok, hR⟩ := h
  have T' : Tp (fcx P w K mg base n_is_node "is_node" s_is_node f cdv A outer s H E).K (fcx P w K mg base n_is_node "is_node" s_is_node f cdv A outer s H E).mg := T
  have v0 : (fcx P w K mg base n_is_node "is_node" s_is_node f cdv A outer s H E).N[0]? = some ("value" : Str) := rfl
  have w0 : Vis (fcx P w K mg base n_is_node "is_node" s_is_node f cdv A outer s H E).env.scope "value" := by walk_at "dv"
  have l0 : Loc (fcx P w K mg base n_is_node "is_node" s_is_node f cdv A outer s H E).env.scope "value" := by walk_at "dl"
  have nd : (fcx P w K mg base n_is_node "is_node" s_is_node f cdv A outer s H E).N.Nodup := sc_is_node.nd
  obtain ⟨t_ARROW, c_ARROW⟩ := T'.c_ARROW
  obtain ⟨t_MOST_PARTS, c_MOST_PARTS⟩ := T'.c_MOST_PARTS
  obtain ⟨t_VARIABLES, c_VARIABLES⟩ := T'.c_VARIABLES
  have b_bool := T'.b_bool
  have b_int := T'.b_int
  have c_is_shape_name := Fn.cal (X := (fcx P w K mg base n_is_node "is_node" s_is_node f cdv A outer s H E)) F_is_shape_name hr hgd
  have b_isinstance := T'.b_isinstance
  have b_len := T'.b_len
  have b_str := T'.b_str
  have b_tuple := T'.b_tuple
  have rm : Rm ⟨(fcx P w K mg base n_is_node "is_node" s_is_node f cdv A outer s H E), H, dr⟩ := rm_of hr
  have gd : Gd ⟨(fcx P w K mg base n_is_node "is_node" s_is_node f cdv A outer s H E), H, dr⟩ := hgd
  rw [show List.replicate (n_is_node.length - [("value" : Str)].length) SV.no = [] from rfl]
  walk_at "dz"
  cases d with
  | int i =>
    walk_at "d"
    refine ⟨fun hc => ?_, fun hc => ?_⟩
    · walk_at "d"
      rw [isNode, hc, Bool.true_and] at hR
      exact hR
    · rw [isNode, hc, Bool.false_and] at hR
      exact ⟨_, rfl, hR⟩
  | none =>
    walk_at "d"
    exact hR
  | bool _ =>
    walk_at "d"
    exact hR
  | str _ => 
    walk_at "d"
    exact hR
  | list _ =>
    walk_at "d"
    exact hR
  | tuple ds =>
    cases ds with
    | nil =>
      walk_at "d"
      exact hR
    | cons d ds =>
      cases d with
      | str x =>
        walk_at "d"
        refine ⟨fun hc => ?_, fun hc => ?_⟩
        · walk_at "d"
          refine rb hR ?_
          rw [isNode, if_pos (of_decide_eq_true hc)]
          refine decide_eq_decide.mpr ?_
          rw [List.length_cons]
          omega
        · walk_at "d"
          rw [isNode, if_neg (of_decide_eq_false hc)] at hR
          refine ⟨fun hl => ?_, fun hl => ?_⟩
          · walk_at "d"
            refine ⟨x, rfl, hok, _, rfl, ?_⟩
            have hl := of_decide_eq_true hl
            rw [List.length_cons] at hl
            rw [decide_eq_true (by omega : ds.length ≤ 3), Bool.true_and] at hR
            exact hR
          · have hl := of_decide_eq_false hl
            rw [List.length_cons] at hl
            rw [decide_eq_false (by omega : ¬ ds.length ≤ 3), Bool.false_and] at hR
            exact ⟨_, rfl, hR⟩
      | _ => 
        walk_at "d"
        exact hR
  | dict _ =>
    walk_at "d"
    exact hR
end
end K01
namespace K01
open PySem L2 DW PyProof.Rows
local macro_rules | `(tactic| walk_at "dv") => `(tactic| first | exact Or.inl rfl | exact Or.inr (Or.inl rfl) | exact Or.inr (Or.inr rfl))
local macro_rules | `(tactic| walk_at "dl") => `(tactic| first | exact Or.inl rfl | exact Or.inr rfl)
local macro_rules | `(tactic| walk_at "wv") => `(tactic| first | with_reducible assumption | walk_at "dv")
local macro_rules | `(tactic| walk_at "wa") => `(tactic| with_reducible assumption)
local macro_rules | `(tactic| walk_at "rm") => `(tactic| first | with_reducible assumption | (apply Rm.blk; with_reducible assumption))
local macro_rules | `(tactic| walk_at "dn") => `(tactic| first
  | refine nm_dat (by walk_at "wa") (by walk_at "wv") (by rfl) ?_ | refine nm_own (by walk_at "wa") (by walk_at "wv") (by rfl) ?_ | refine nm_drw (by walk_at "wa") (by walk_at "wv") (by rfl) ?_ | refine nm_scr (by walk_at "wa") (by walk_at "wv") (by rfl) ?_
  | refine de_globI (by walk_at "wa") rfl ?_ | refine de_globS (by walk_at "wa") rfl ?_)
local macro_rules | `(tactic| walk_at "dci") => `(tactic| first
  | ((with_reducible show DE _ _ (Expr.Call _ [_, Expr.Name "int" _] _ _) _); refine de_is kInt bt_int (by walk_at "wa") (by walk_at "wa") ?_)
  | ((with_reducible show DE _ _ (Expr.Call _ [_, Expr.Name "bool" _] _ _) _); refine de_is kBool bt_bool (by walk_at "wa") (by walk_at "wa") ?_)
  | ((with_reducible show DE _ _ (Expr.Call _ [_, Expr.Name "str" _] _ _) _); refine de_is kStr bt_str (by walk_at "wa") (by walk_at "wa") ?_)
  | ((with_reducible show DE _ _ (Expr.Call _ [_, Expr.Name "tuple" _] _ _) _); refine de_is kTup bt_tuple (by walk_at "wa") (by walk_at "wa") ?_)
  | ((with_reducible show DE _ _ (Expr.Call _ [_, Expr.Name "list" _] _ _) _); refine de_is kLst bt_list (by walk_at "wa") (by walk_at "wa") ?_)
  | ((with_reducible show DE _ _ (Expr.Call _ [_, Expr.Tuple [Expr.Name "tuple" _, Expr.Name "list" _] _ _] _ _) _); refine de_is2 kTup kLst bt_tuple bt_list (by walk_at "wa") (by walk_at "wa") (by walk_at "wa") ?_)
  | ((with_reducible show DE _ _ (Expr.Call _ [_, Expr.Tuple [Expr.Name "int" _, Expr.Name "tuple" _] _ _] _ _) _); refine de_is2 kInt kTup bt_int bt_tuple (by walk_at "wa") (by walk_at "wa") (by walk_at "wa") ?_))
local macro_rules | `(tactic| walk_at "dc") => `(tactic| first
  | ((with_reducible show DE _ _ (Expr.Call (Expr.Name "isinstance" _) _ _ _) _); walk_at "dci")
  | ((with_reducible show DE _ _ (Expr.Call (Expr.Name "len" _) [Expr.Name _ _] _ _) _); refine len_scr (by walk_at "wa") (by walk_at "wv") (by rfl) (by walk_at "wa") ?_)
  | ((with_reducible show DE _ _ (Expr.Call (Expr.Name "len" _) _ _ _) _); refine de_b1 bb_len (by walk_at "wa") ?_)
  | ((with_reducible show DE _ _ (Expr.Call (Expr.Name "abs" _) _ _ _) _); refine de_b1 bb_abs (by walk_at "wa") ?_)
  | ((with_reducible show DE _ _ (Expr.Call (Expr.Name "repr" _) _ _ _) _); refine de_b1 bb_repr (by walk_at "wa") ?_)
  | ((with_reducible show DE _ _ (Expr.Call (Expr.Name "all" _) _ _ _) _); refine de_b1 bb_all (by walk_at "wa") ?_)
  | ((with_reducible show DE _ _ (Expr.Call (Expr.Name "any" _) _ _ _) _); refine de_b1 bb_any (by walk_at "wa") ?_)
  | ((with_reducible show DE _ _ (Expr.Call (Expr.Name "sum" _) _ _ _) _); refine de_b1 bb_sum (by walk_at "wa") ?_)
  | ((with_reducible show DE _ _ (Expr.Call (Expr.Name "max" _) _ _ _) _); refine de_b1 bb_max (by walk_at "wa") ?_)
  | ((with_reducible show DE _ _ (Expr.Call (Expr.Name "int" _) _ _ _) _); refine de_t1 bt_int (by walk_at "wa") ?_)
  | ((with_reducible show DE _ _ (Expr.Call (Expr.Name "tuple" _) _ _ _) _); refine de_t1 bt_tuple (by walk_at "wa") ?_)
  | ((with_reducible show DE _ _ (Expr.Call (Expr.Name "min" _) _ _ _) _); refine de_b2 bb_min (by walk_at "wa") ?_)
  | ((with_reducible show DE ⟨blkX _ _ _ _ _ _ _, _, _⟩ _ _ _); refine de_fB (by walk_at "wa") ?_)
  | refine de_f (by walk_at "wa") ?_)
local macro_rules | `(tactic| walk_at "de") => `(tactic| first
  | ((with_reducible show DE _ _ (Expr.Name _ _) _); walk_at "dn")
  | ((with_reducible show DE _ _ (Expr.Call (Expr.Name _ _) _ _ _) _); walk_at "dc")
  | ((with_reducible show DE _ _ (Expr.Constant (Const.int _) _ _) _); refine de_int ?_)
  | ((with_reducible show DE _ _ (Expr.Constant (Const.str _) _ _) _); refine de_str ?_)
  | ((with_reducible show DE _ _ (Expr.Constant (Const.bool _) _ _) _); refine de_bl ?_)
  | ((with_reducible show DE _ _ (Expr.Constant Const.none _ _) _); refine de_non ?_)
  | ((with_reducible show DE _ _ (Expr.Compare _ [_] _ _) _); refine de_cmp ?_)
  | ((with_reducible show DE _ _ (Expr.Compare _ [_, _] _ _) _); refine de_chain ?_)
  | ((with_reducible show DE _ _ (Expr.BinOp (Expr.List _ _) Operator.Add _ _) _); refine DL.de (dl_op ?_))
  | ((with_reducible show DE _ _ (Expr.BinOp _ Operator.Add (Expr.List _ _) _) _); refine DL.de (dl_op ?_))
  | ((with_reducible show DE _ _ (Expr.BinOp _ _ _ _) _); refine de_op ?_)
  | ((with_reducible show DE _ _ (Expr.Dict [] [] _) _); refine de_dic0 ?_)
  | ((with_reducible show DE _ _ (Expr.List _ _) _); refine DL.de (dl_list ?_))
  | ((with_reducible show DE _ _ (Expr.Subscript _ (Expr.Slice _ _ (some _) _) _) _); refine de_revT ?_)
  | ((with_reducible show DE _ _ (Expr.Subscript (Expr.Name _ _) (Expr.Slice _ _ none _) _) _); first
    | refine de_slT (nm_dat (d := PyData.tuple _) (by walk_at "wa") (by walk_at "wv") (by rfl) ?_)
    | refine de_slS (nm_dat (d := PyData.str _) (by walk_at "wa") (by walk_at "wv") (by rfl) ?_)
    | refine DL.de (dl_slL (nm_dat (d := PyData.list _) (by walk_at "wa") (by walk_at "wv") (by rfl) ?_)))
  | ((with_reducible show DE _ _ (Expr.Subscript _ (Expr.Slice _ _ none _) _) _); refine de_slT ?_)
  | ((with_reducible show DE _ _ (Expr.Subscript (Expr.Name _ _) (Expr.Constant (Const.int _) _ _) _) _); refine de_drwIx (by walk_at "wa") (by walk_at "wv") (by rfl) (by decide) ?_)
  | ((with_reducible show DE _ _ (Expr.Subscript _ _ _) _); refine de_ix ?_)
  | ((with_reducible show DE _ _ (Expr.Tuple _ _ _) _); refine de_tuple ?_)
  | ((with_reducible show DE _ _ (Expr.BoolOp _ [_] _) _); refine de_one ?_)
  | ((with_reducible show DE _ _ (Expr.BoolOp BoolOp.And _ _) _); refine de_and ?_)
  | ((with_reducible show DE _ _ (Expr.BoolOp BoolOp.Or _ _) _); refine de_or ?_)
  | ((with_reducible show DE _ _ (Expr.UnaryOp UnaryOp.Not _ _) _); refine de_not ?_)
  | ((with_reducible show DE _ _ (Expr.UnaryOp UnaryOp.USub _ _) _); refine de_neg ?_)
  | ((with_reducible show DE _ _ (Expr.IfExp _ _ _ _) _); refine de_if ?_))
local macro_rules | `(tactic| walk_at "dop") => `(tactic| first
  | ((with_reducible show DOp _ (binaryOp Operator.Add) (PyData.int _) (PyData.int _) _); refine do_add ?_)
  | ((with_reducible show DOp _ (binaryOp Operator.Sub) (PyData.int _) (PyData.int _) _); refine do_sub ?_)
  | ((with_reducible show DOp _ (binaryOp Operator.Mult) (PyData.int _) (PyData.int _) _); first | refine do_mul ?_ (by first | exact Or.inl ⟨by decide, by decide⟩ | exact Or.inr ⟨by decide, by decide⟩) | refine do_mul ?_ ?_)
  | ((with_reducible show DOp _ (binaryOp Operator.FloorDiv) (PyData.int _) (PyData.int _) _); first | refine do_fdiv ?_ ⟨by first | decide | with_reducible assumption | omega, by first | decide | with_reducible assumption | omega⟩ | refine do_fdiv ?_ ?_)
  | ((with_reducible show DOp _ (binaryOp Operator.Mod) (PyData.int _) (PyData.int _) _); first | refine do_mod ?_ (by first | decide | with_reducible assumption | omega) | refine do_mod ?_ ?_)
  | ((with_reducible show DOp _ (binaryOp Operator.Pow) (PyData.int _) (PyData.int _) _); first | refine do_pow ?_ ⟨by decide, by decide, by decide⟩ | refine do_pow ?_ ?_)
  | ((with_reducible show DOp _ (compareOp CmpOp.Lt) (PyData.int _) (PyData.int _) _); refine do_lt ?_)
  | ((with_reducible show DOp _ (compareOp CmpOp.LtE) (PyData.int _) (PyData.int _) _); refine do_le ?_)
  | ((with_reducible show DOp _ (compareOp CmpOp.Gt) (PyData.int _) (PyData.int _) _); refine do_gt ?_)
  | ((with_reducible show DOp _ (compareOp CmpOp.GtE) (PyData.int _) (PyData.int _) _); refine do_ge ?_)
  | ((with_reducible show DOp _ (compareOp CmpOp.Eq) (PyData.int _) (PyData.int _) _); refine do_eqI ?_)
  | ((with_reducible show DOp _ (compareOp CmpOp.NotEq) (PyData.int _) (PyData.int _) _); refine do_neI ?_)
  | ((with_reducible show DOp _ (compareOp CmpOp.Eq) (PyData.str _) (PyData.str _) _); refine do_eqS ?_)
  | ((with_reducible show DOp _ (compareOp CmpOp.NotEq) (PyData.str _) (PyData.str _) _); refine do_neS ?_)
  | ((with_reducible show DOp _ (compareOp CmpOp.Eq) (PyData.bool _) (PyData.bool _) _); refine do_eqB ?_)
  | ((with_reducible show DOp _ (compareOp CmpOp.NotEq) (PyData.bool _) (PyData.bool _) _); refine do_neB ?_)
  | ((with_reducible show DOp _ (compareOp CmpOp.NotEq) (PyData.list _) (PyData.list []) _); refine do_neL0 (by walk_at "rm") ?_)
  | ((with_reducible show DOp _ (compareOp CmpOp.Eq) (PyData.list _) (PyData.list []) _); refine do_eqL0 (by walk_at "rm") ?_)
  | ((with_reducible show DOp _ (compareOp CmpOp.Eq) (PyData.tuple _) (PyData.tuple []) _); refine do_eqT0 (by walk_at "rm") ?_)
  | ((with_reducible show DOp _ (compareOp CmpOp.Is) _ PyData.none _); refine do_isN ?_)
  | ((with_reducible show DOp _ (compareOp CmpOp.IsNot) _ PyData.none _); refine do_notN ?_)
  | ((with_reducible show DOp _ (compareOp CmpOp.In) (PyData.str ⟨#[_]⟩) (PyData.str _) _); refine do_inS ?_)
  | ((with_reducible show DOp _ (compareOp CmpOp.NotIn) (PyData.str ⟨#[_]⟩) (PyData.str _) _); refine do_ninS ?_))
local macro_rules | `(tactic| walk_at "dca") => `(tactic| first
  | ((with_reducible show DCall _ (Value.builtin "len") [PyData.tuple _] _); refine dc_len (n := List.length _) ?_ rfl)
  | ((with_reducible show DCall _ (Value.builtin "len") [PyData.list _] _); refine dc_len (n := List.length _) ?_ rfl)
  | ((with_reducible show DCall _ (Value.builtin "len") [PyData.str _] _); refine dc_len ?_ ⟨rfl, ?_⟩)
  | ((with_reducible show DCall _ (Value.builtin "abs") _ _); refine dc_abs ?_)
  | ((with_reducible show DCall _ (Value.builtin "min") _ _); refine dc_min2 rfl ?_)
  | ((with_reducible show DCall _ (Value.type "int") [PyData.bool _] _); refine dc_intB ?_)
  | ((with_reducible show DCall _ (Value.type "tuple") [PyData.list _] _); refine dc_tupL ?_)
  | ((with_reducible show DCall _ (Value.type "tuple") [PyData.tuple _] _); refine dc_tupT ?_))
local macro_rules | `(tactic| walk_at "dix") => `(tactic| first
  | ((with_reducible show DIx _ _ (PyData.int 0) _); first | refine dix_t0 ?_ | refine dix_l0 ?_)
  | ((with_reducible show DIx _ _ (PyData.int 1) _); first | refine dix_t1 ?_ | refine dix_l1 ?_)
  | ((with_reducible show DIx _ _ (PyData.int 2) _); first | refine dix_t2 ?_ | refine dix_l2 ?_))
local macro_rules | `(tactic| walk_at "dt") => `(tactic| first
  | ((with_reducible show DT _ _ (Expr.BoolOp BoolOp.And _ _) _); refine DW.DW.dt (dw_and ?_))
  | ((with_reducible show DT _ _ (Expr.BoolOp BoolOp.Or _ _) _); refine DW.DW.dt (dw_or ?_))
  | ((with_reducible show DT _ _ (Expr.Compare _ [_] _ _) _); refine dt_cmp ?_)
  | ((with_reducible show DT _ _ (Expr.Compare _ [_, _] _ _) _); refine dt_chain ?_)
  | ((with_reducible show DT _ _ (Expr.UnaryOp UnaryOp.Not _ _) _); refine dt_not ?_)
  | refine dt_val ?_)
local macro_rules | `(tactic| walk_at "d1") => `(tactic| first
  | ((with_reducible show DE _ _ _ _); walk_at "de")
  | ((with_reducible show DT _ _ _ _); walk_at "dt")
  | ((with_reducible show DOp _ _ _ _ _); walk_at "dop")
  | ((with_reducible show DOpL _ (binaryOp Operator.Add) (PyData.list _) (PyData.list _) _); refine dol_cat ?_ ?_)
  | ((with_reducible show DCall _ _ _ _); walk_at "dca")
  | ((with_reducible show DIx _ _ _ _); walk_at "dix")
  | ((with_reducible show DW.DW _ _ (Expr.BoolOp BoolOp.And [_] _) _); refine dw_and1 ?_)
  | ((with_reducible show DW.DW _ _ (Expr.BoolOp BoolOp.Or [_] _) _); refine dw_or1 ?_)
  | ((with_reducible show DW.DW _ _ (Expr.BoolOp BoolOp.And _ _) _); refine dw_and ?_)
  | ((with_reducible show DW.DW _ _ (Expr.BoolOp BoolOp.Or _ _) _); refine dw_or ?_)
  | ((with_reducible show DAd _ _ [] _); refine dad_nil ?_)
  | ((with_reducible show DAd _ _ _ _); refine dad_cons ?_)
  | ((with_reducible show DAv _ _ [] _); refine dav_nil ?_)
  | ((with_reducible show DAv _ _ _ _); refine dav_cons ?_)
  | ((with_reducible show DO _ _ none _); refine do_none ?_)
  | ((with_reducible show DO _ _ _ _); refine do_some ?_)
  | ((with_reducible show ∃ dx dy, DatOf _ (EV.dat _) dx ∧ DatOf _ (EV.dat _) dy ∧ _); refine ⟨_, _, .dat, .dat, ?_⟩)
  | ((with_reducible show ∃ dx dy, DatOf _ (EV.dat _) dx ∧ (EV.dat _) = EV.dat dy ∧ _); refine ⟨_, _, .dat, rfl, ?_⟩)
  | ((with_reducible show ∃ dx dy, DatOf _ _ dx ∧ DatOf _ _ dy ∧ _); first | refine ⟨_, _, .own rfl, .dat, ?_⟩ | refine ⟨_, _, .dat, .own rfl, ?_⟩ | refine ⟨_, _, .own rfl, .own rfl, ?_⟩)
  | ((with_reducible show ∃ dx, DatOf _ (EV.dat _) dx ∧ _); refine ⟨_, .dat, ?_⟩)
  | ((with_reducible show ∃ dx, DatOf _ _ dx ∧ _); refine ⟨_, .own rfl, ?_⟩)
  | ((with_reducible show ∃ d, _ = _ ∧ _); refine ⟨_, rfl, ?_⟩)
  | ((with_reducible show ∃ av : AV, _ ∧ _); first | refine ⟨_, Or.inl ⟨rfl, rfl⟩, ?_⟩ | refine ⟨_, Or.inr ⟨_, rfl, rfl⟩, ?_⟩))
local macro_rules | `(tactic| walk_at "db") => `(tactic| first
  | refine ⟨fun _ => ?_, fun h => Bool.noConfusion h⟩ | refine ⟨fun h => Bool.noConfusion h, fun _ => ?_⟩)
local macro_rules | `(tactic| walk_at "dst") => `(tactic| first
  | ((with_reducible show DS _ _ (Stmt.If _ _ _ _) _ _ _ _); refine ds_if ?_)
  | ((with_reducible show DS _ _ (Stmt.Expr _ _) _ _ _ _); refine ds_expr ?_)
  | ((with_reducible show DS _ _ (Stmt.Pass _) _ _ _ _); refine ds_pass ?_)
  | ((with_reducible show DS _ _ (Stmt.Assign [Expr.Subscript (Expr.Name _ _) (Expr.Constant (Const.int _) _ _) _] _ _) _ _ _ _); refine ds_drwSet (by walk_at "wa") (by walk_at "wv") ?_)
  | ((with_reducible show DS _ _ (Stmt.Return (some (Expr.ListComp _ _ _ _)) _) _ _ _ _); refine ds_retL ?_)
  | ((with_reducible show DS _ _ (Stmt.Return (some (Expr.List _ _)) _) _ _ _ _); refine ds_retL (dl_list ?_))
  | ((with_reducible show DS _ _ (Stmt.Return (some (Expr.Name _ _)) _) _ _ _ _); first
    | refine ds_ret (nm_dat (by walk_at "wa") (by walk_at "wv") (by rfl) ?_)
    | refine ds_retO (nm_own (by walk_at "wa") (by walk_at "wv") (by rfl) ⟨_, _, rfl, rfl, ?_⟩)
    | refine ds_ret ?_)
  | ((with_reducible show DS _ _ (Stmt.Return (some _) _) _ _ _ _); refine ds_ret ?_)
  | ((with_reducible show DS _ _ (Stmt.Assign [Expr.Name _ _] _ _) _ _ _ _); (fail_if_success (with_reducible show DS _ _ (Stmt.Assign [Expr.Name _ _] (Expr.ListComp _ _ _ _) _) _ _ _ _)); (fail_if_success (with_reducible show DS _ _ (Stmt.Assign [Expr.Name _ _] (Expr.List _ _) _) _ _ _ _)); refine st_set (by walk_at "wa") (by walk_at "wa") (by walk_at "wa") ?_))
local macro_rules | `(tactic| walk_at "e") => `(tactic| repeat (first | walk_at "d1" | walk_at "db"))
local macro_rules | `(tactic| walk_at "d") => `(tactic| repeat (first | walk_at "d1" | walk_at "db" | ((with_reducible show DS _ _ _ _ _ _ _); walk_at "dst") | ((with_reducible show DB _ _ [] _ _ _ _); refine db_nil ?_) | ((with_reducible show DB _ _ _ _ _ _ _); refine db_cons ?_)))
local macro_rules | `(tactic| walk_at "ds") => `(tactic| refine st_set (by walk_at "wa") (by walk_at "wa") (by walk_at "wa") ?_)
local macro_rules | `(tactic| walk_at "dsl") => `(tactic| refine st_setL (by walk_at "wa") (by walk_at "wa") (by walk_at "wa") ?_)
local macro_rules | `(tactic| walk_at "dz") => `(tactic| dsimp (config := { proj := false }) only [List.set, List.map, List.replicate, List.cons_append, List.nil_append, AV.sv])
section
variable {P : Program} {w : World} {K : PySem.W.Frag} {mg : Str → Option Value} {base : Heap}
theorem isName_len0 {x : Str} (h : ¬ 1 ≤ x.length) : isName x = false := by
  unfold isName; rw [decide_eq_false h]; rfl
theorem isName_len8 {x : Str} (h : ¬ x.length ≤ 8) : isName x = false := by
  unfold isName; rw [decide_eq_false h, Bool.and_false]; rfl
theorem isName_cons {x : Str} {c : Nat} {cs : List Nat} (hx : x.cps.toList = c :: cs) (h : x.length ≤ 8) : isName x = (decide (c ∈ caps.cps.toList) && x.cps.toList.all fun c => decide (c ∈ signs.cps.toList)) := by
  have h1 : 1 ≤ x.length := by
    show 1 ≤ x.cps.size
    rw [← Array.length_toList, hx]
    simp
  unfold isName
  rw [decide_eq_true h1, decide_eq_true h, hx]
  rfl
theorem ok_is_shape_name {k : Nat} (T : Tp K mg) : Fn P w K mg base (k + 1) "is_shape_name" fs_is_shape_name := by
  refine T.d_is_shape_name.ok sc_is_shape_name (fun avs R h => ?_) (fun f cdv A outer s H E dr avs R hr hgd h => ?_)
  · obtain ⟨d, rfl, _⟩ := h
    rfl
  obtain ⟨x, rfl, hx, hR⟩ := h
  have T' : Tp (fcx P w K mg base n_is_shape_name "is_shape_name" s_is_shape_name f cdv A outer s H E).K (fcx P w K mg base n_is_shape_name "is_shape_name" s_is_shape_name f cdv A outer s H E).mg := T
  have v0 : (fcx P w K mg base n_is_shape_name "is_shape_name" s_is_shape_name f cdv A outer s H E).N[0]? = some ("value" : Str) := rfl
  have w0 : Vis (fcx P w K mg base n_is_shape_name "is_shape_name" s_is_shape_name f cdv A outer s H E).env.scope "value" := by walk_at "dv"
  have l0 : Loc (fcx P w K mg base n_is_shape_name "is_shape_name" s_is_shape_name f cdv A outer s H E).env.scope "value" := by walk_at "dl"
  have v1 : (fcx P w K mg base n_is_shape_name "is_shape_name" s_is_shape_name f cdv A outer s H E).N[1]? = some ("sign" : Str) := rfl
  have nd : (fcx P w K mg base n_is_shape_name "is_shape_name" s_is_shape_name f cdv A outer s H E).N.Nodup := sc_is_shape_name.nd
  obtain ⟨t_CAPITALS, c_CAPITALS⟩ := T'.c_CAPITALS
  obtain ⟨t_LONGEST, c_LONGEST⟩ := T'.c_LONGEST
  obtain ⟨t_SIGNS, c_SIGNS⟩ := T'.c_SIGNS
  have b_all := T'.b_all
  have b_isinstance := T'.b_isinstance
  have b_len := T'.b_len
  have b_str := T'.b_str
  have rm : Rm ⟨(fcx P w K mg base n_is_shape_name "is_shape_name" s_is_shape_name f cdv A outer s H E), H, dr⟩ := rm_of hr
  have gd : Gd ⟨(fcx P w K mg base n_is_shape_name "is_shape_name" s_is_shape_name f cdv A outer s H E), H, dr⟩ := hgd
  rw [show List.replicate (n_is_shape_name.length - [("value" : Str)].length) SV.no = [.no] from rfl]
  walk_at "dz"
  have hz : x.length ≤ sizeLine := by unfold sizeLine; omega
  walk_at "d"
  · refine ⟨fun h1 => ?_, fun h1 => ?_⟩
    · walk_at "d"
      refine ⟨fun h8 => ?_, fun h8 => ?_⟩
      · walk_at "d"
        refine rb hR (isName_len8 ?_).symm
        have h8 := nTd h8
        omega
      · have h1 := dTr h1
        have h8 := nFd h8
        cases hc : x.cps.toList with
        | nil =>
          exfalso
          have : x.length = 0 := by
            show x.cps.size = 0
            rw [← Array.length_toList, hc]; rfl
          omega
        | cons c cs =>
          rw [isName_cons hc (by omega)] at hR
          walk_at "d"
          refine dix_str hz (c := c) (atI_nat (j := 0) (by rw [hc]; rfl)) ?_
          walk_at "d"
          refine ⟨fun h => ?_, fun h => ?_⟩
          · walk_at "d"
            refine rb hR ?_
            rw [show decide (c ∈ caps.cps.toList) = false from nT h, Bool.false_and]
          · walk_at "d"
            refine DL.de (lc_mapA v1 nd rfl (fun c : Nat => .str ⟨#[c]⟩) (fun c => .bool (decide (c ∈ signs.cps.toList))) (di_str ?_))
            walk_at "d"
            refine ⟨rfl, ?_, fun c hc s H0 C0 cl fp Hx => ?_, ?_⟩
            · rw [List.length_map, Array.length_toList]
              show x.length < sizeLine
              unfold sizeLine; omega
            · walk_at "d"
              exact ⟨rfl, rfl⟩
            · walk_at "d"
              refine dc_allA rfl ?_
              walk_at "d"
              refine rb hR ?_
              rw [show decide (c ∈ caps.cps.toList) = true from nF h, Bool.true_and]
    · walk_at "d"
      refine rb hR (isName_len0 ?_).symm
      have h1 := of_decide_eq_false h1
      omega
  · exact hz
end
end K01
namespace K01
open PySem L2 DW PyProof.Rows
local macro_rules | `(tactic| walk_at "dv") => `(tactic| first | exact Or.inl rfl | exact Or.inr (Or.inl rfl) | exact Or.inr (Or.inr rfl))
local macro_rules | `(tactic| walk_at "dl") => `(tactic| first | exact Or.inl rfl | exact Or.inr rfl)
local macro_rules | `(tactic| walk_at "wv") => `(tactic| first | with_reducible assumption | walk_at "dv")
local macro_rules | `(tactic| walk_at "wa") => `(tactic| with_reducible assumption)
local macro_rules | `(tactic| walk_at "rm") => `(tactic| first | with_reducible assumption | (apply Rm.blk; with_reducible assumption))
local macro_rules | `(tactic| walk_at "dn") => `(tactic| first
  | refine nm_dat (by walk_at "wa") (by walk_at "wv") (by rfl) ?_ | refine nm_own (by walk_at "wa") (by walk_at "wv") (by rfl) ?_ | refine nm_drw (by walk_at "wa") (by walk_at "wv") (by rfl) ?_ | refine nm_scr (by walk_at "wa") (by walk_at "wv") (by rfl) ?_
  | refine de_globI (by walk_at "wa") rfl ?_ | refine de_globS (by walk_at "wa") rfl ?_)
local macro_rules | `(tactic| walk_at "dci") => `(tactic| first
  | ((with_reducible show DE _ _ (Expr.Call _ [_, Expr.Name "int" _] _ _) _); refine de_is kInt bt_int (by walk_at "wa") (by walk_at "wa") ?_)
  | ((with_reducible show DE _ _ (Expr.Call _ [_, Expr.Name "bool" _] _ _) _); refine de_is kBool bt_bool (by walk_at "wa") (by walk_at "wa") ?_)
  | ((with_reducible show DE _ _ (Expr.Call _ [_, Expr.Name "str" _] _ _) _); refine de_is kStr bt_str (by walk_at "wa") (by walk_at "wa") ?_)
  | ((with_reducible show DE _ _ (Expr.Call _ [_, Expr.Name "tuple" _] _ _) _); refine de_is kTup bt_tuple (by walk_at "wa") (by walk_at "wa") ?_)
  | ((with_reducible show DE _ _ (Expr.Call _ [_, Expr.Name "list" _] _ _) _); refine de_is kLst bt_list (by walk_at "wa") (by walk_at "wa") ?_)
  | ((with_reducible show DE _ _ (Expr.Call _ [_, Expr.Tuple [Expr.Name "tuple" _, Expr.Name "list" _] _ _] _ _) _); refine de_is2 kTup kLst bt_tuple bt_list (by walk_at "wa") (by walk_at "wa") (by walk_at "wa") ?_)
  | ((with_reducible show DE _ _ (Expr.Call _ [_, Expr.Tuple [Expr.Name "int" _, Expr.Name "tuple" _] _ _] _ _) _); refine de_is2 kInt kTup bt_int bt_tuple (by walk_at "wa") (by walk_at "wa") (by walk_at "wa") ?_))
local macro_rules | `(tactic| walk_at "dc") => `(tactic| first
  | ((with_reducible show DE _ _ (Expr.Call (Expr.Name "isinstance" _) _ _ _) _); walk_at "dci")
  | ((with_reducible show DE _ _ (Expr.Call (Expr.Name "len" _) [Expr.Name _ _] _ _) _); refine len_scr (by walk_at "wa") (by walk_at "wv") (by rfl) (by walk_at "wa") ?_)
  | ((with_reducible show DE _ _ (Expr.Call (Expr.Name "len" _) _ _ _) _); refine de_b1 bb_len (by walk_at "wa") ?_)
  | ((with_reducible show DE _ _ (Expr.Call (Expr.Name "abs" _) _ _ _) _); refine de_b1 bb_abs (by walk_at "wa") ?_)
  | ((with_reducible show DE _ _ (Expr.Call (Expr.Name "repr" _) _ _ _) _); refine de_b1 bb_repr (by walk_at "wa") ?_)
  | ((with_reducible show DE _ _ (Expr.Call (Expr.Name "all" _) _ _ _) _); refine de_b1 bb_all (by walk_at "wa") ?_)
  | ((with_reducible show DE _ _ (Expr.Call (Expr.Name "any" _) _ _ _) _); refine de_b1 bb_any (by walk_at "wa") ?_)
  | ((with_reducible show DE _ _ (Expr.Call (Expr.Name "sum" _) _ _ _) _); refine de_b1 bb_sum (by walk_at "wa") ?_)
  | ((with_reducible show DE _ _ (Expr.Call (Expr.Name "max" _) _ _ _) _); refine de_b1 bb_max (by walk_at "wa") ?_)
  | ((with_reducible show DE _ _ (Expr.Call (Expr.Name "int" _) _ _ _) _); refine de_t1 bt_int (by walk_at "wa") ?_)
  | ((with_reducible show DE _ _ (Expr.Call (Expr.Name "tuple" _) _ _ _) _); refine de_t1 bt_tuple (by walk_at "wa") ?_)
  | ((with_reducible show DE _ _ (Expr.Call (Expr.Name "min" _) _ _ _) _); refine de_b2 bb_min (by walk_at "wa") ?_)
  | ((with_reducible show DE ⟨blkX _ _ _ _ _ _ _, _, _⟩ _ _ _); refine de_fB (by walk_at "wa") ?_)
  | refine de_f (by walk_at "wa") ?_)
local macro_rules | `(tactic| walk_at "de") => `(tactic| first
  | ((with_reducible show DE _ _ (Expr.Name _ _) _); walk_at "dn")
  | ((with_reducible show DE _ _ (Expr.Call (Expr.Name _ _) _ _ _) _); walk_at "dc")
  | ((with_reducible show DE _ _ (Expr.Constant (Const.int _) _ _) _); refine de_int ?_)
  | ((with_reducible show DE _ _ (Expr.Constant (Const.str _) _ _) _); refine de_str ?_)
  | ((with_reducible show DE _ _ (Expr.Constant (Const.bool _) _ _) _); refine de_bl ?_)
  | ((with_reducible show DE _ _ (Expr.Constant Const.none _ _) _); refine de_non ?_)
  | ((with_reducible show DE _ _ (Expr.Compare _ [_] _ _) _); refine de_cmp ?_)
  | ((with_reducible show DE _ _ (Expr.Compare _ [_, _] _ _) _); refine de_chain ?_)
  | ((with_reducible show DE _ _ (Expr.BinOp (Expr.List _ _) Operator.Add _ _) _); refine DL.de (dl_op ?_))
  | ((with_reducible show DE _ _ (Expr.BinOp _ Operator.Add (Expr.List _ _) _) _); refine DL.de (dl_op ?_))
  | ((with_reducible show DE _ _ (Expr.BinOp _ _ _ _) _); refine de_op ?_)
  | ((with_reducible show DE _ _ (Expr.Dict [] [] _) _); refine de_dic0 ?_)
  | ((with_reducible show DE _ _ (Expr.List _ _) _); refine DL.de (dl_list ?_))
  | ((with_reducible show DE _ _ (Expr.Subscript _ (Expr.Slice _ _ (some _) _) _) _); refine de_revT ?_)
  | ((with_reducible show DE _ _ (Expr.Subscript (Expr.Name _ _) (Expr.Slice _ _ none _) _) _); first
    | refine de_slT (nm_dat (d := PyData.tuple _) (by walk_at "wa") (by walk_at "wv") (by rfl) ?_)
    | refine de_slS (nm_dat (d := PyData.str _) (by walk_at "wa") (by walk_at "wv") (by rfl) ?_)
    | refine DL.de (dl_slL (nm_dat (d := PyData.list _) (by walk_at "wa") (by walk_at "wv") (by rfl) ?_)))
  | ((with_reducible show DE _ _ (Expr.Subscript _ (Expr.Slice _ _ none _) _) _); refine de_slT ?_)
  | ((with_reducible show DE _ _ (Expr.Subscript (Expr.Name _ _) (Expr.Constant (Const.int _) _ _) _) _); refine de_drwIx (by walk_at "wa") (by walk_at "wv") (by rfl) (by decide) ?_)
  | ((with_reducible show DE _ _ (Expr.Subscript _ _ _) _); refine de_ix ?_)
  | ((with_reducible show DE _ _ (Expr.Tuple _ _ _) _); refine de_tuple ?_)
  | ((with_reducible show DE _ _ (Expr.BoolOp _ [_] _) _); refine de_one ?_)
  | ((with_reducible show DE _ _ (Expr.BoolOp BoolOp.And _ _) _); refine de_and ?_)
  | ((with_reducible show DE _ _ (Expr.BoolOp BoolOp.Or _ _) _); refine de_or ?_)
  | ((with_reducible show DE _ _ (Expr.UnaryOp UnaryOp.Not _ _) _); refine de_not ?_)
  | ((with_reducible show DE _ _ (Expr.UnaryOp UnaryOp.USub _ _) _); refine de_neg ?_)
  | ((with_reducible show DE _ _ (Expr.IfExp _ _ _ _) _); refine de_if ?_))
local macro_rules | `(tactic| walk_at "dop") => `(tactic| first
  | ((with_reducible show DOp _ (binaryOp Operator.Add) (PyData.int _) (PyData.int _) _); refine do_add ?_)
  | ((with_reducible show DOp _ (binaryOp Operator.Sub) (PyData.int _) (PyData.int _) _); refine do_sub ?_)
  | ((with_reducible show DOp _ (binaryOp Operator.Mult) (PyData.int _) (PyData.int _) _); first | refine do_mul ?_ (by first | exact Or.inl ⟨by decide, by decide⟩ | exact Or.inr ⟨by decide, by decide⟩) | refine do_mul ?_ ?_)
  | ((with_reducible show DOp _ (binaryOp Operator.FloorDiv) (PyData.int _) (PyData.int _) _); first | refine do_fdiv ?_ ⟨by first | decide | with_reducible assumption | omega, by first | decide | with_reducible assumption | omega⟩ | refine do_fdiv ?_ ?_)
  | ((with_reducible show DOp _ (binaryOp Operator.Mod) (PyData.int _) (PyData.int _) _); first | refine do_mod ?_ (by first | decide | with_reducible assumption | omega) | refine do_mod ?_ ?_)
  | ((with_reducible show DOp _ (binaryOp Operator.Pow) (PyData.int _) (PyData.int _) _); first | refine do_pow ?_ ⟨by decide, by decide, by decide⟩ | refine do_pow ?_ ?_)
  | ((with_reducible show DOp _ (compareOp CmpOp.Lt) (PyData.int _) (PyData.int _) _); refine do_lt ?_)
  | ((with_reducible show DOp _ (compareOp CmpOp.LtE) (PyData.int _) (PyData.int _) _); refine do_le ?_)
  | ((with_reducible show DOp _ (compareOp CmpOp.Gt) (PyData.int _) (PyData.int _) _); refine do_gt ?_)
  | ((with_reducible show DOp _ (compareOp CmpOp.GtE) (PyData.int _) (PyData.int _) _); refine do_ge ?_)
  | ((with_reducible show DOp _ (compareOp CmpOp.Eq) (PyData.int _) (PyData.int _) _); refine do_eqI ?_)
  | ((with_reducible show DOp _ (compareOp CmpOp.NotEq) (PyData.int _) (PyData.int _) _); refine do_neI ?_)
  | ((with_reducible show DOp _ (compareOp CmpOp.Eq) (PyData.str _) (PyData.str _) _); refine do_eqS ?_)
  | ((with_reducible show DOp _ (compareOp CmpOp.NotEq) (PyData.str _) (PyData.str _) _); refine do_neS ?_)
  | ((with_reducible show DOp _ (compareOp CmpOp.Eq) (PyData.bool _) (PyData.bool _) _); refine do_eqB ?_)
  | ((with_reducible show DOp _ (compareOp CmpOp.NotEq) (PyData.bool _) (PyData.bool _) _); refine do_neB ?_)
  | ((with_reducible show DOp _ (compareOp CmpOp.NotEq) (PyData.list _) (PyData.list []) _); refine do_neL0 (by walk_at "rm") ?_)
  | ((with_reducible show DOp _ (compareOp CmpOp.Eq) (PyData.list _) (PyData.list []) _); refine do_eqL0 (by walk_at "rm") ?_)
  | ((with_reducible show DOp _ (compareOp CmpOp.Eq) (PyData.tuple _) (PyData.tuple []) _); refine do_eqT0 (by walk_at "rm") ?_)
  | ((with_reducible show DOp _ (compareOp CmpOp.Is) _ PyData.none _); refine do_isN ?_)
  | ((with_reducible show DOp _ (compareOp CmpOp.IsNot) _ PyData.none _); refine do_notN ?_)
  | ((with_reducible show DOp _ (compareOp CmpOp.In) (PyData.str ⟨#[_]⟩) (PyData.str _) _); refine do_inS ?_)
  | ((with_reducible show DOp _ (compareOp CmpOp.NotIn) (PyData.str ⟨#[_]⟩) (PyData.str _) _); refine do_ninS ?_))
local macro_rules | `(tactic| walk_at "dca") => `(tactic| first
  | ((with_reducible show DCall _ (Value.builtin "len") [PyData.tuple _] _); refine dc_len (n := List.length _) ?_ rfl)
  | ((with_reducible show DCall _ (Value.builtin "len") [PyData.list _] _); refine dc_len (n := List.length _) ?_ rfl)
  | ((with_reducible show DCall _ (Value.builtin "len") [PyData.str _] _); refine dc_len ?_ ⟨rfl, ?_⟩)
  | ((with_reducible show DCall _ (Value.builtin "abs") _ _); refine dc_abs ?_)
  | ((with_reducible show DCall _ (Value.builtin "min") _ _); refine dc_min2 rfl ?_)
  | ((with_reducible show DCall _ (Value.type "int") [PyData.bool _] _); refine dc_intB ?_)
  | ((with_reducible show DCall _ (Value.type "tuple") [PyData.list _] _); refine dc_tupL ?_)
  | ((with_reducible show DCall _ (Value.type "tuple") [PyData.tuple _] _); refine dc_tupT ?_))
local macro_rules | `(tactic| walk_at "dix") => `(tactic| first
  | ((with_reducible show DIx _ _ (PyData.int 0) _); first | refine dix_t0 ?_ | refine dix_l0 ?_)
  | ((with_reducible show DIx _ _ (PyData.int 1) _); first | refine dix_t1 ?_ | refine dix_l1 ?_)
  | ((with_reducible show DIx _ _ (PyData.int 2) _); first | refine dix_t2 ?_ | refine dix_l2 ?_))
local macro_rules | `(tactic| walk_at "dt") => `(tactic| first
  | ((with_reducible show DT _ _ (Expr.BoolOp BoolOp.And _ _) _); refine DW.DW.dt (dw_and ?_))
  | ((with_reducible show DT _ _ (Expr.BoolOp BoolOp.Or _ _) _); refine DW.DW.dt (dw_or ?_))
  | ((with_reducible show DT _ _ (Expr.Compare _ [_] _ _) _); refine dt_cmp ?_)
  | ((with_reducible show DT _ _ (Expr.Compare _ [_, _] _ _) _); refine dt_chain ?_)
  | ((with_reducible show DT _ _ (Expr.UnaryOp UnaryOp.Not _ _) _); refine dt_not ?_)
  | refine dt_val ?_)
local macro_rules | `(tactic| walk_at "d1") => `(tactic| first
  | ((with_reducible show DE _ _ _ _); walk_at "de")
  | ((with_reducible show DT _ _ _ _); walk_at "dt")
  | ((with_reducible show DOp _ _ _ _ _); walk_at "dop")
  | ((with_reducible show DOpL _ (binaryOp Operator.Add) (PyData.list _) (PyData.list _) _); refine dol_cat ?_ ?_)
  | ((with_reducible show DCall _ _ _ _); walk_at "dca")
  | ((with_reducible show DIx _ _ _ _); walk_at "dix")
  | ((with_reducible show DW.DW _ _ (Expr.BoolOp BoolOp.And [_] _) _); refine dw_and1 ?_)
  | ((with_reducible show DW.DW _ _ (Expr.BoolOp BoolOp.Or [_] _) _); refine dw_or1 ?_)
  | ((with_reducible show DW.DW _ _ (Expr.BoolOp BoolOp.And _ _) _); refine dw_and ?_)
  | ((with_reducible show DW.DW _ _ (Expr.BoolOp BoolOp.Or _ _) _); refine dw_or ?_)
  | ((with_reducible show DAd _ _ [] _); refine dad_nil ?_)
  | ((with_reducible show DAd _ _ _ _); refine dad_cons ?_)
  | ((with_reducible show DAv _ _ [] _); refine dav_nil ?_)
  | ((with_reducible show DAv _ _ _ _); refine dav_cons ?_)
  | ((with_reducible show DO _ _ none _); refine do_none ?_)
  | ((with_reducible show DO _ _ _ _); refine do_some ?_)
  | ((with_reducible show ∃ dx dy, DatOf _ (EV.dat _) dx ∧ DatOf _ (EV.dat _) dy ∧ _); refine ⟨_, _, .dat, .dat, ?_⟩)
  | ((with_reducible show ∃ dx dy, DatOf _ (EV.dat _) dx ∧ (EV.dat _) = EV.dat dy ∧ _); refine ⟨_, _, .dat, rfl, ?_⟩)
  | ((with_reducible show ∃ dx dy, DatOf _ _ dx ∧ DatOf _ _ dy ∧ _); first | refine ⟨_, _, .own rfl, .dat, ?_⟩ | refine ⟨_, _, .dat, .own rfl, ?_⟩ | refine ⟨_, _, .own rfl, .own rfl, ?_⟩)
  | ((with_reducible show ∃ dx, DatOf _ (EV.dat _) dx ∧ _); refine ⟨_, .dat, ?_⟩)
  | ((with_reducible show ∃ dx, DatOf _ _ dx ∧ _); refine ⟨_, .own rfl, ?_⟩)
  | ((with_reducible show ∃ d, _ = _ ∧ _); refine ⟨_, rfl, ?_⟩)
  | ((with_reducible show ∃ av : AV, _ ∧ _); first | refine ⟨_, Or.inl ⟨rfl, rfl⟩, ?_⟩ | refine ⟨_, Or.inr ⟨_, rfl, rfl⟩, ?_⟩))
local macro_rules | `(tactic| walk_at "db") => `(tactic| first
  | refine ⟨fun _ => ?_, fun h => Bool.noConfusion h⟩ | refine ⟨fun h => Bool.noConfusion h, fun _ => ?_⟩)
local macro_rules | `(tactic| walk_at "dst") => `(tactic| first
  | ((with_reducible show DS _ _ (Stmt.If _ _ _ _) _ _ _ _); refine ds_if ?_)
  | ((with_reducible show DS _ _ (Stmt.Expr _ _) _ _ _ _); refine ds_expr ?_)
  | ((with_reducible show DS _ _ (Stmt.Pass _) _ _ _ _); refine ds_pass ?_)
  | ((with_reducible show DS _ _ (Stmt.Assign [Expr.Subscript (Expr.Name _ _) (Expr.Constant (Const.int _) _ _) _] _ _) _ _ _ _); refine ds_drwSet (by walk_at "wa") (by walk_at "wv") ?_)
  | ((with_reducible show DS _ _ (Stmt.Return (some (Expr.ListComp _ _ _ _)) _) _ _ _ _); refine ds_retL ?_)
  | ((with_reducible show DS _ _ (Stmt.Return (some (Expr.List _ _)) _) _ _ _ _); refine ds_retL (dl_list ?_))
  | ((with_reducible show DS _ _ (Stmt.Return (some (Expr.Name _ _)) _) _ _ _ _); first
    | refine ds_ret (nm_dat (by walk_at "wa") (by walk_at "wv") (by rfl) ?_)
    | refine ds_retO (nm_own (by walk_at "wa") (by walk_at "wv") (by rfl) ⟨_, _, rfl, rfl, ?_⟩)
    | refine ds_ret ?_)
  | ((with_reducible show DS _ _ (Stmt.Return (some _) _) _ _ _ _); refine ds_ret ?_)
  | ((with_reducible show DS _ _ (Stmt.Assign [Expr.Name _ _] _ _) _ _ _ _); (fail_if_success (with_reducible show DS _ _ (Stmt.Assign [Expr.Name _ _] (Expr.ListComp _ _ _ _) _) _ _ _ _)); (fail_if_success (with_reducible show DS _ _ (Stmt.Assign [Expr.Name _ _] (Expr.List _ _) _) _ _ _ _)); refine st_set (by walk_at "wa") (by walk_at "wa") (by walk_at "wa") ?_))
local macro_rules | `(tactic| walk_at "e") => `(tactic| repeat (first | walk_at "d1" | walk_at "db"))
local macro_rules | `(tactic| walk_at "d") => `(tactic| repeat (first | walk_at "d1" | walk_at "db" | ((with_reducible show DS _ _ _ _ _ _ _); walk_at "dst") | ((with_reducible show DB _ _ [] _ _ _ _); refine db_nil ?_) | ((with_reducible show DB _ _ _ _ _ _ _); refine db_cons ?_)))
local macro_rules | `(tactic| walk_at "ds") => `(tactic| refine st_set (by walk_at "wa") (by walk_at "wa") (by walk_at "wa") ?_)
local macro_rules | `(tactic| walk_at "dsl") => `(tactic| refine st_setL (by walk_at "wa") (by walk_at "wa") (by walk_at "wa") ?_)
local macro_rules | `(tactic| walk_at "dz") => `(tactic| dsimp (config := { proj := false }) only [List.set, List.map, List.replicate, List.cons_append, List.nil_append, AV.sv])
section
variable {P : Program} {w : World} {K : PySem.W.Frag} {mg : Str → Option Value} {base : Heap}
def fs_is_shape_within : FS := fun avs R => ∃ d, avs = [.dat d, .dat (.int 200), .dat (.int 30)] ∧ short d = true ∧ R (.dat (.bool (isShape d)))
def pr (p : PyData × Int) : PyData := .tuple [p.1, .int p.2]
def WW1 (d : PyData) (m : Nat) (ρ : Rho) : Prop := ∃ (st : List (PyData × Int)) (c : Nat) (s5 s6 : SV), ρ = [.dat d, .dat (.int 200), .dat (.int 30), .own (st.map pr), .dat (.int c), s5, s6, .no] ∧ c + m = 201 ∧ st.length ≤ 1 + 3 * c ∧ c ≤ 200 ∧ (Ps st c ↔ isShape d = true) ∧ ∀ p ∈ st, short p.1 = true
theorem rbT {R : RV → Prop} {a : Bool} (h : R (.dat (.bool a))) (e : a = true) : R (.dat (.bool true)) := e ▸ h
theorem rbF {R : RV → Prop} {a : Bool} (h : R (.dat (.bool a))) (e : ¬ a = true) : R (.dat (.bool false)) := by
  rw [Bool.not_eq_true] at e
  exact e ▸ h
theorem ok_is_shape_within {k : Nat} (T : Tp K mg) (F_is_node : Fn P w K mg base k "is_node" fs_is_node) : Fn P w K mg base (k + 1) "is_shape_within" fs_is_shape_within := by
  refine T.d_is_shape_within.ok sc_is_shape_within (fun avs R h => ?_) (fun f cdv A outer s H E dr avs R hr hgd h => ?_)
  · obtain ⟨d, rfl, _⟩ := h
    rfl
  obtain ⟨d, rfl, hs, hR⟩ := h
  have T' : Tp (fcx P w K mg base n_is_shape_within "is_shape_within" s_is_shape_within f cdv A outer s H E).K (fcx P w K mg base n_is_shape_within "is_shape_within" s_is_shape_within f cdv A outer s H E).mg := T
  have v0 : (fcx P w K mg base n_is_shape_within "is_shape_within" s_is_shape_within f cdv A outer s H E).N[0]? = some ("value" : Str) := rfl
  have w0 : Vis (fcx P w K mg base n_is_shape_within "is_shape_within" s_is_shape_within f cdv A outer s H E).env.scope "value" := by walk_at "dv"
  have l0 : Loc (fcx P w K mg base n_is_shape_within "is_shape_within" s_is_shape_within f cdv A outer s H E).env.scope "value" := by walk_at "dl"
  have v1 : (fcx P w K mg base n_is_shape_within "is_shape_within" s_is_shape_within f cdv A outer s H E).N[1]? = some ("most" : Str) := rfl
  have w1 : Vis (fcx P w K mg base n_is_shape_within "is_shape_within" s_is_shape_within f cdv A outer s H E).env.scope "most" := by walk_at "dv"
  have l1 : Loc (fcx P w K mg base n_is_shape_within "is_shape_within" s_is_shape_within f cdv A outer s H E).env.scope "most" := by walk_at "dl"
  have v2 : (fcx P w K mg base n_is_shape_within "is_shape_within" s_is_shape_within f cdv A outer s H E).N[2]? = some ("deepest" : Str) := rfl
  have w2 : Vis (fcx P w K mg base n_is_shape_within "is_shape_within" s_is_shape_within f cdv A outer s H E).env.scope "deepest" := by walk_at "dv"
  have l2 : Loc (fcx P w K mg base n_is_shape_within "is_shape_within" s_is_shape_within f cdv A outer s H E).env.scope "deepest" := by walk_at "dl"
  have v3 : (fcx P w K mg base n_is_shape_within "is_shape_within" s_is_shape_within f cdv A outer s H E).N[3]? = some ("waiting" : Str) := rfl
  have w3 : Vis (fcx P w K mg base n_is_shape_within "is_shape_within" s_is_shape_within f cdv A outer s H E).env.scope "waiting" := by walk_at "dv"
  have l3 : Loc (fcx P w K mg base n_is_shape_within "is_shape_within" s_is_shape_within f cdv A outer s H E).env.scope "waiting" := by walk_at "dl"
  have v4 : (fcx P w K mg base n_is_shape_within "is_shape_within" s_is_shape_within f cdv A outer s H E).N[4]? = some ("count" : Str) := rfl
  have w4 : Vis (fcx P w K mg base n_is_shape_within "is_shape_within" s_is_shape_within f cdv A outer s H E).env.scope "count" := by walk_at "dv"
  have l4 : Loc (fcx P w K mg base n_is_shape_within "is_shape_within" s_is_shape_within f cdv A outer s H E).env.scope "count" := by walk_at "dl"
  have v5 : (fcx P w K mg base n_is_shape_within "is_shape_within" s_is_shape_within f cdv A outer s H E).N[5]? = some ("here" : Str) := rfl
  have w5 : Vis (fcx P w K mg base n_is_shape_within "is_shape_within" s_is_shape_within f cdv A outer s H E).env.scope "here" := by walk_at "dv"
  have l5 : Loc (fcx P w K mg base n_is_shape_within "is_shape_within" s_is_shape_within f cdv A outer s H E).env.scope "here" := by walk_at "dl"
  have v6 : (fcx P w K mg base n_is_shape_within "is_shape_within" s_is_shape_within f cdv A outer s H E).N[6]? = some ("level" : Str) := rfl
  have w6 : Vis (fcx P w K mg base n_is_shape_within "is_shape_within" s_is_shape_within f cdv A outer s H E).env.scope "level" := by walk_at "dv"
  have l6 : Loc (fcx P w K mg base n_is_shape_within "is_shape_within" s_is_shape_within f cdv A outer s H E).env.scope "level" := by walk_at "dl"
  have v7 : (fcx P w K mg base n_is_shape_within "is_shape_within" s_is_shape_within f cdv A outer s H E).N[7]? = some ("part" : Str) := rfl
  have nd : (fcx P w K mg base n_is_shape_within "is_shape_within" s_is_shape_within f cdv A outer s H E).N.Nodup := sc_is_shape_within.nd
  have c_is_node := Fn.cal (X := (fcx P w K mg base n_is_shape_within "is_shape_within" s_is_shape_within f cdv A outer s H E)) F_is_node hr hgd
  have b_isinstance := T'.b_isinstance
  have b_tuple := T'.b_tuple
  have rm : Rm ⟨(fcx P w K mg base n_is_shape_within "is_shape_within" s_is_shape_within f cdv A outer s H E), H, dr⟩ := rm_of hr
  have gd : Gd ⟨(fcx P w K mg base n_is_shape_within "is_shape_within" s_is_shape_within f cdv A outer s H E), H, dr⟩ := hgd
  rw [show List.replicate (n_is_shape_within.length - [("value" : Str), ("most" : Str), ("deepest" : Str)].length) SV.no = [.no, .no, .no, .no, .no] from rfl]
  walk_at "dz"
  refine db_cons ?_
  walk_at "dsl"
  refine dl_list ?_
  walk_at "d"
  refine ds_while (WW1 d) 201 ⟨[(d, 1)], 0, .no, .no, rfl, rfl, by rw [List.length_singleton]; omega, by omega, ps_start d, ?_⟩ ?_
  · intro p hp
    cases List.mem_singleton.mp hp
    exact hs
  · rintro m ρ ⟨st, c, s5, s6, rfl, hm, hl, hc, hP, hS⟩
    walk_at "d"
    refine ⟨fun h => ?_, fun h => ?_⟩
    · rcases List.eq_nil_or_concat st with rfl | ⟨st, ⟨e, l⟩, rfl⟩
      · exact nomatch h
      rw [List.concat_eq_append] at *
      have hS1 : short e = true := hS (e, l) (by simp)
      rw [List.map_append, List.map_singleton]
      walk_at "d"
      refine ds_asg ?_
      refine me_pop v3 w3 rfl ?_
      refine ⟨_, rfl, ?_⟩
      refine dg_tup (gts_cons v5 l5 nd (gts_cons v6 l6 nd (dgs_nil ?_))) rfl rfl
      walk_at "dz"
      walk_at "d"
      refine ⟨fun h1 => ?_, fun h1 => ?_⟩
      · walk_at "d"
        refine rbF hR fun q => ps_many (dTr h1) (hP.mpr q)
      walk_at "dz"
      walk_at "d"
      refine ⟨fun h2 => ?_, fun h2 => ?_⟩
      · walk_at "d"
        refine rbF hR fun q => ps_deep (dTr h2) (hP.mpr q)
      walk_at "d"
      refine ⟨e, rfl, short_hd hS1, _, rfl, ?_⟩
      refine ⟨fun h3 => ?_, fun h3 => ?_⟩
      · walk_at "d"
        refine rbF hR fun q => ps_bad (nT h3) (hP.mpr q)
      have h1 := dFa h1
      have h2 := dFa h2
      have h3 := nF h3
      rw [List.length_append, List.length_singleton] at hl
      have hSt : ∀ p ∈ st, short p.1 = true := fun p hp => hS p (List.mem_append_left _ hp)
      walk_at "d"
      cases e with
      | int i =>
        refine ⟨fun h => (nomatch h), fun _ => ?_⟩
        walk_at "d"
        refine ⟨m - 1, by omega, st, c + 1, _, _, rfl, by omega, by omega, by omega, ?_, hSt⟩
        rw [← hP, ps_leaf h3 (by omega)]
        rfl
      | tuple ds =>
        cases ds with
        | nil => exact nomatch h3
        | cons hd ds =>
          have h4 := node_len h3
          refine ⟨fun _ => ?_, fun h => (nomatch h)⟩
          walk_at "d"
          refine me_extend v3 w3 rfl ?_
          refine DL.de (lc_mapA v7 nd rfl id (fun d => .tuple [d, .int (l + 1)]) (di_tup ?_))
          walk_at "d"
          rw [cut_1]
          refine ⟨ds, (List.map_id _).symm, rfl, by unfold sizeLine; omega, fun z hz s1 H1 C1 cl fp Hx => ?_, ?_⟩
          · walk_at "d"
            exact ⟨rfl, rfl⟩
          refine ⟨_, _, .inl rfl, rfl, ?_, ?_⟩
          · rw [List.length_map, List.length_map]; unfold sizeLine; omega
          walk_at "dz"
          walk_at "d"
          refine ⟨m - 1, by omega, st ++ ds.map (fun d => (d, l + 1)), c + 1, .dat (.tuple (hd :: ds)), .dat (.int l), ?_, by omega, ?_, by omega, ?_, ?_⟩
          · rw [List.map_append, List.map_map]
            rfl
          · rw [List.length_append, List.length_map]; omega
          · rw [← hP, ps_tup h3 (by omega)]
            rfl
          · intro p hp
            rcases List.mem_append.mp hp with hp | hp
            · exact hSt p hp
            · obtain ⟨z, hz, rfl⟩ := List.mem_map.mp hp
              rw [short, shorts, Bool.and_eq_true] at hS1
              exact shorts_mem hS1.2 hz
      | _ => exact nomatch h3
    · have hst : st = [] := by
        cases st with
        | nil => rfl
        | cons _ _ => exact nomatch h
      subst hst
      walk_at "d"
      refine rbT hR (hP.mp ⟨(fun p hp => nomatch hp), ?_⟩)
      show (0 : Int) + c ≤ 200
      omega
def fs_is_shape : FS := fun avs R => ∃ d, avs = [.dat d] ∧ short d = true ∧ R (.dat (.bool (isShape d)))
theorem ok_is_shape {k : Nat} (T : Tp K mg) (F_is_shape_within : Fn P w K mg base k "is_shape_within" fs_is_shape_within) : Fn P w K mg base (k + 1) "is_shape" fs_is_shape := by
  refine T.d_is_shape.ok sc_is_shape (fun avs R h => ?_) (fun f cdv A outer s H E dr avs R hr hgd h => ?_)
  · obtain ⟨d, rfl, _⟩ := h
    rfl
  obtain ⟨d, rfl, hs, hR⟩ := h
  have T' : Tp (fcx P w K mg base n_is_shape "is_shape" s_is_shape f cdv A outer s H E).K (fcx P w K mg base n_is_shape "is_shape" s_is_shape f cdv A outer s H E).mg := T
  have v0 : (fcx P w K mg base n_is_shape "is_shape" s_is_shape f cdv A outer s H E).N[0]? = some ("value" : Str) := rfl
  have w0 : Vis (fcx P w K mg base n_is_shape "is_shape" s_is_shape f cdv A outer s H E).env.scope "value" := by walk_at "dv"
  have l0 : Loc (fcx P w K mg base n_is_shape "is_shape" s_is_shape f cdv A outer s H E).env.scope "value" := by walk_at "dl"
  have nd : (fcx P w K mg base n_is_shape "is_shape" s_is_shape f cdv A outer s H E).N.Nodup := sc_is_shape.nd
  obtain ⟨t_DEPTH, c_DEPTH⟩ := T'.c_DEPTH
  obtain ⟨t_NODES, c_NODES⟩ := T'.c_NODES
  have c_is_shape_within := Fn.cal (X := (fcx P w K mg base n_is_shape "is_shape" s_is_shape f cdv A outer s H E)) F_is_shape_within hr hgd
  have rm : Rm ⟨(fcx P w K mg base n_is_shape "is_shape" s_is_shape f cdv A outer s H E), H, dr⟩ := rm_of hr
  have gd : Gd ⟨(fcx P w K mg base n_is_shape "is_shape" s_is_shape f cdv A outer s H E), H, dr⟩ := hgd
  rw [show List.replicate (n_is_shape.length - [("value" : Str)].length) SV.no = [] from rfl]
  walk_at "dz"
  walk_at "d"
  exact ⟨d, rfl, hs, _, rfl, hR⟩
end
end K01
namespace K01
open PySem L2 DW PyProof.Rows
local macro_rules | `(tactic| walk_at "dv") => `(tactic| first | exact Or.inl rfl | exact Or.inr (Or.inl rfl) | exact Or.inr (Or.inr rfl))
local macro_rules | `(tactic| walk_at "dl") => `(tactic| first | exact Or.inl rfl | exact Or.inr rfl)
local macro_rules | `(tactic| walk_at "wv") => `(tactic| first | with_reducible assumption | walk_at "dv")
local macro_rules | `(tactic| walk_at "wa") => `(tactic| with_reducible assumption)
local macro_rules | `(tactic| walk_at "rm") => `(tactic| first | with_reducible assumption | (apply Rm.blk; with_reducible assumption))
local macro_rules | `(tactic| walk_at "dn") => `(tactic| first
  | refine nm_dat (by walk_at "wa") (by walk_at "wv") (by rfl) ?_ | refine nm_own (by walk_at "wa") (by walk_at "wv") (by rfl) ?_ | refine nm_drw (by walk_at "wa") (by walk_at "wv") (by rfl) ?_ | refine nm_scr (by walk_at "wa") (by walk_at "wv") (by rfl) ?_
  | refine de_globI (by walk_at "wa") rfl ?_ | refine de_globS (by walk_at "wa") rfl ?_)
local macro_rules | `(tactic| walk_at "dci") => `(tactic| first
  | ((with_reducible show DE _ _ (Expr.Call _ [_, Expr.Name "int" _] _ _) _); refine de_is kInt bt_int (by walk_at "wa") (by walk_at "wa") ?_)
  | ((with_reducible show DE _ _ (Expr.Call _ [_, Expr.Name "bool" _] _ _) _); refine de_is kBool bt_bool (by walk_at "wa") (by walk_at "wa") ?_)
  | ((with_reducible show DE _ _ (Expr.Call _ [_, Expr.Name "str" _] _ _) _); refine de_is kStr bt_str (by walk_at "wa") (by walk_at "wa") ?_)
  | ((with_reducible show DE _ _ (Expr.Call _ [_, Expr.Name "tuple" _] _ _) _); refine de_is kTup bt_tuple (by walk_at "wa") (by walk_at "wa") ?_)
  | ((with_reducible show DE _ _ (Expr.Call _ [_, Expr.Name "list" _] _ _) _); refine de_is kLst bt_list (by walk_at "wa") (by walk_at "wa") ?_)
  | ((with_reducible show DE _ _ (Expr.Call _ [_, Expr.Tuple [Expr.Name "tuple" _, Expr.Name "list" _] _ _] _ _) _); refine de_is2 kTup kLst bt_tuple bt_list (by walk_at "wa") (by walk_at "wa") (by walk_at "wa") ?_)
  | ((with_reducible show DE _ _ (Expr.Call _ [_, Expr.Tuple [Expr.Name "int" _, Expr.Name "tuple" _] _ _] _ _) _); refine de_is2 kInt kTup bt_int bt_tuple (by walk_at "wa") (by walk_at "wa") (by walk_at "wa") ?_))
local macro_rules | `(tactic| walk_at "dc") => `(tactic| first
  | ((with_reducible show DE _ _ (Expr.Call (Expr.Name "isinstance" _) _ _ _) _); walk_at "dci")
  | ((with_reducible show DE _ _ (Expr.Call (Expr.Name "len" _) [Expr.Name _ _] _ _) _); refine len_scr (by walk_at "wa") (by walk_at "wv") (by rfl) (by walk_at "wa") ?_)
  | ((with_reducible show DE _ _ (Expr.Call (Expr.Name "len" _) _ _ _) _); refine de_b1 bb_len (by walk_at "wa") ?_)
  | ((with_reducible show DE _ _ (Expr.Call (Expr.Name "abs" _) _ _ _) _); refine de_b1 bb_abs (by walk_at "wa") ?_)
  | ((with_reducible show DE _ _ (Expr.Call (Expr.Name "repr" _) _ _ _) _); refine de_b1 bb_repr (by walk_at "wa") ?_)
  | ((with_reducible show DE _ _ (Expr.Call (Expr.Name "all" _) _ _ _) _); refine de_b1 bb_all (by walk_at "wa") ?_)
  | ((with_reducible show DE _ _ (Expr.Call (Expr.Name "any" _) _ _ _) _); refine de_b1 bb_any (by walk_at "wa") ?_)
  | ((with_reducible show DE _ _ (Expr.Call (Expr.Name "sum" _) _ _ _) _); refine de_b1 bb_sum (by walk_at "wa") ?_)
  | ((with_reducible show DE _ _ (Expr.Call (Expr.Name "max" _) _ _ _) _); refine de_b1 bb_max (by walk_at "wa") ?_)
  | ((with_reducible show DE _ _ (Expr.Call (Expr.Name "int" _) _ _ _) _); refine de_t1 bt_int (by walk_at "wa") ?_)
  | ((with_reducible show DE _ _ (Expr.Call (Expr.Name "tuple" _) _ _ _) _); refine de_t1 bt_tuple (by walk_at "wa") ?_)
  | ((with_reducible show DE _ _ (Expr.Call (Expr.Name "min" _) _ _ _) _); refine de_b2 bb_min (by walk_at "wa") ?_)
  | ((with_reducible show DE ⟨blkX _ _ _ _ _ _ _, _, _⟩ _ _ _); refine de_fB (by walk_at "wa") ?_)
  | refine de_f (by walk_at "wa") ?_)
local macro_rules | `(tactic| walk_at "de") => `(tactic| first
  | ((with_reducible show DE _ _ (Expr.Name _ _) _); walk_at "dn")
  | ((with_reducible show DE _ _ (Expr.Call (Expr.Name _ _) _ _ _) _); walk_at "dc")
  | ((with_reducible show DE _ _ (Expr.Constant (Const.int _) _ _) _); refine de_int ?_)
  | ((with_reducible show DE _ _ (Expr.Constant (Const.str _) _ _) _); refine de_str ?_)
  | ((with_reducible show DE _ _ (Expr.Constant (Const.bool _) _ _) _); refine de_bl ?_)
  | ((with_reducible show DE _ _ (Expr.Constant Const.none _ _) _); refine de_non ?_)
  | ((with_reducible show DE _ _ (Expr.Compare _ [_] _ _) _); refine de_cmp ?_)
  | ((with_reducible show DE _ _ (Expr.Compare _ [_, _] _ _) _); refine de_chain ?_)
  | ((with_reducible show DE _ _ (Expr.BinOp (Expr.List _ _) Operator.Add _ _) _); refine DL.de (dl_op ?_))
  | ((with_reducible show DE _ _ (Expr.BinOp _ Operator.Add (Expr.List _ _) _) _); refine DL.de (dl_op ?_))
  | ((with_reducible show DE _ _ (Expr.BinOp _ _ _ _) _); refine de_op ?_)
  | ((with_reducible show DE _ _ (Expr.Dict [] [] _) _); refine de_dic0 ?_)
  | ((with_reducible show DE _ _ (Expr.List _ _) _); refine DL.de (dl_list ?_))
  | ((with_reducible show DE _ _ (Expr.Subscript _ (Expr.Slice _ _ (some _) _) _) _); refine de_revT ?_)
  | ((with_reducible show DE _ _ (Expr.Subscript (Expr.Name _ _) (Expr.Slice _ _ none _) _) _); first
    | refine de_slT (nm_dat (d := PyData.tuple _) (by walk_at "wa") (by walk_at "wv") (by rfl) ?_)
    | refine de_slS (nm_dat (d := PyData.str _) (by walk_at "wa") (by walk_at "wv") (by rfl) ?_)
    | refine DL.de (dl_slL (nm_dat (d := PyData.list _) (by walk_at "wa") (by walk_at "wv") (by rfl) ?_)))
  | ((with_reducible show DE _ _ (Expr.Subscript _ (Expr.Slice _ _ none _) _) _); refine de_slT ?_)
  | ((with_reducible show DE _ _ (Expr.Subscript (Expr.Name _ _) (Expr.Constant (Const.int _) _ _) _) _); refine de_drwIx (by walk_at "wa") (by walk_at "wv") (by rfl) (by decide) ?_)
  | ((with_reducible show DE _ _ (Expr.Subscript _ _ _) _); refine de_ix ?_)
  | ((with_reducible show DE _ _ (Expr.Tuple _ _ _) _); refine de_tuple ?_)
  | ((with_reducible show DE _ _ (Expr.BoolOp _ [_] _) _); refine de_one ?_)
  | ((with_reducible show DE _ _ (Expr.BoolOp BoolOp.And _ _) _); refine de_and ?_)
  | ((with_reducible show DE _ _ (Expr.BoolOp BoolOp.Or _ _) _); refine de_or ?_)
  | ((with_reducible show DE _ _ (Expr.UnaryOp UnaryOp.Not _ _) _); refine de_not ?_)
  | ((with_reducible show DE _ _ (Expr.UnaryOp UnaryOp.USub _ _) _); refine de_neg ?_)
  | ((with_reducible show DE _ _ (Expr.IfExp _ _ _ _) _); refine de_if ?_))
local macro_rules | `(tactic| walk_at "dop") => `(tactic| first
  | ((with_reducible show DOp _ (binaryOp Operator.Add) (PyData.int _) (PyData.int _) _); refine do_add ?_)
  | ((with_reducible show DOp _ (binaryOp Operator.Sub) (PyData.int _) (PyData.int _) _); refine do_sub ?_)
  | ((with_reducible show DOp _ (binaryOp Operator.Mult) (PyData.int _) (PyData.int _) _); first | refine do_mul ?_ (by first | exact Or.inl ⟨by decide, by decide⟩ | exact Or.inr ⟨by decide, by decide⟩) | refine do_mul ?_ ?_)
  | ((with_reducible show DOp _ (binaryOp Operator.FloorDiv) (PyData.int _) (PyData.int _) _); first | refine do_fdiv ?_ ⟨by first | decide | with_reducible assumption | omega, by first | decide | with_reducible assumption | omega⟩ | refine do_fdiv ?_ ?_)
  | ((with_reducible show DOp _ (binaryOp Operator.Mod) (PyData.int _) (PyData.int _) _); first | refine do_mod ?_ (by first | decide | with_reducible assumption | omega) | refine do_mod ?_ ?_)
  | ((with_reducible show DOp _ (binaryOp Operator.Pow) (PyData.int _) (PyData.int _) _); first | refine do_pow ?_ ⟨by decide, by decide, by decide⟩ | refine do_pow ?_ ?_)
  | ((with_reducible show DOp _ (compareOp CmpOp.Lt) (PyData.int _) (PyData.int _) _); refine do_lt ?_)
  | ((with_reducible show DOp _ (compareOp CmpOp.LtE) (PyData.int _) (PyData.int _) _); refine do_le ?_)
  | ((with_reducible show DOp _ (compareOp CmpOp.Gt) (PyData.int _) (PyData.int _) _); refine do_gt ?_)
  | ((with_reducible show DOp _ (compareOp CmpOp.GtE) (PyData.int _) (PyData.int _) _); refine do_ge ?_)
  | ((with_reducible show DOp _ (compareOp CmpOp.Eq) (PyData.int _) (PyData.int _) _); refine do_eqI ?_)
  | ((with_reducible show DOp _ (compareOp CmpOp.NotEq) (PyData.int _) (PyData.int _) _); refine do_neI ?_)
  | ((with_reducible show DOp _ (compareOp CmpOp.Eq) (PyData.str _) (PyData.str _) _); refine do_eqS ?_)
  | ((with_reducible show DOp _ (compareOp CmpOp.NotEq) (PyData.str _) (PyData.str _) _); refine do_neS ?_)
  | ((with_reducible show DOp _ (compareOp CmpOp.Eq) (PyData.bool _) (PyData.bool _) _); refine do_eqB ?_)
  | ((with_reducible show DOp _ (compareOp CmpOp.NotEq) (PyData.bool _) (PyData.bool _) _); refine do_neB ?_)
  | ((with_reducible show DOp _ (compareOp CmpOp.NotEq) (PyData.list _) (PyData.list []) _); refine do_neL0 (by walk_at "rm") ?_)
  | ((with_reducible show DOp _ (compareOp CmpOp.Eq) (PyData.list _) (PyData.list []) _); refine do_eqL0 (by walk_at "rm") ?_)
  | ((with_reducible show DOp _ (compareOp CmpOp.Eq) (PyData.tuple _) (PyData.tuple []) _); refine do_eqT0 (by walk_at "rm") ?_)
  | ((with_reducible show DOp _ (compareOp CmpOp.Is) _ PyData.none _); refine do_isN ?_)
  | ((with_reducible show DOp _ (compareOp CmpOp.IsNot) _ PyData.none _); refine do_notN ?_)
  | ((with_reducible show DOp _ (compareOp CmpOp.In) (PyData.str ⟨#[_]⟩) (PyData.str _) _); refine do_inS ?_)
  | ((with_reducible show DOp _ (compareOp CmpOp.NotIn) (PyData.str ⟨#[_]⟩) (PyData.str _) _); refine do_ninS ?_))
local macro_rules | `(tactic| walk_at "dca") => `(tactic| first
  | ((with_reducible show DCall _ (Value.builtin "len") [PyData.tuple _] _); refine dc_len (n := List.length _) ?_ rfl)
  | ((with_reducible show DCall _ (Value.builtin "len") [PyData.list _] _); refine dc_len (n := List.length _) ?_ rfl)
  | ((with_reducible show DCall _ (Value.builtin "len") [PyData.str _] _); refine dc_len ?_ ⟨rfl, ?_⟩)
  | ((with_reducible show DCall _ (Value.builtin "abs") _ _); refine dc_abs ?_)
  | ((with_reducible show DCall _ (Value.builtin "min") _ _); refine dc_min2 rfl ?_)
  | ((with_reducible show DCall _ (Value.type "int") [PyData.bool _] _); refine dc_intB ?_)
  | ((with_reducible show DCall _ (Value.type "tuple") [PyData.list _] _); refine dc_tupL ?_)
  | ((with_reducible show DCall _ (Value.type "tuple") [PyData.tuple _] _); refine dc_tupT ?_))
local macro_rules | `(tactic| walk_at "dix") => `(tactic| first
  | ((with_reducible show DIx _ _ (PyData.int 0) _); first | refine dix_t0 ?_ | refine dix_l0 ?_)
  | ((with_reducible show DIx _ _ (PyData.int 1) _); first | refine dix_t1 ?_ | refine dix_l1 ?_)
  | ((with_reducible show DIx _ _ (PyData.int 2) _); first | refine dix_t2 ?_ | refine dix_l2 ?_))
local macro_rules | `(tactic| walk_at "dt") => `(tactic| first
  | ((with_reducible show DT _ _ (Expr.BoolOp BoolOp.And _ _) _); refine DW.DW.dt (dw_and ?_))
  | ((with_reducible show DT _ _ (Expr.BoolOp BoolOp.Or _ _) _); refine DW.DW.dt (dw_or ?_))
  | ((with_reducible show DT _ _ (Expr.Compare _ [_] _ _) _); refine dt_cmp ?_)
  | ((with_reducible show DT _ _ (Expr.Compare _ [_, _] _ _) _); refine dt_chain ?_)
  | ((with_reducible show DT _ _ (Expr.UnaryOp UnaryOp.Not _ _) _); refine dt_not ?_)
  | refine dt_val ?_)
local macro_rules | `(tactic| walk_at "d1") => `(tactic| first
  | ((with_reducible show DE _ _ _ _); walk_at "de")
  | ((with_reducible show DT _ _ _ _); walk_at "dt")
  | ((with_reducible show DOp _ _ _ _ _); walk_at "dop")
  | ((with_reducible show DOpL _ (binaryOp Operator.Add) (PyData.list _) (PyData.list _) _); refine dol_cat ?_ ?_)
  | ((with_reducible show DCall _ _ _ _); walk_at "dca")
  | ((with_reducible show DIx _ _ _ _); walk_at "dix")
  | ((with_reducible show DW.DW _ _ (Expr.BoolOp BoolOp.And [_] _) _); refine dw_and1 ?_)
  | ((with_reducible show DW.DW _ _ (Expr.BoolOp BoolOp.Or [_] _) _); refine dw_or1 ?_)
  | ((with_reducible show DW.DW _ _ (Expr.BoolOp BoolOp.And _ _) _); refine dw_and ?_)
  | ((with_reducible show DW.DW _ _ (Expr.BoolOp BoolOp.Or _ _) _); refine dw_or ?_)
  | ((with_reducible show DAd _ _ [] _); refine dad_nil ?_)
  | ((with_reducible show DAd _ _ _ _); refine dad_cons ?_)
  | ((with_reducible show DAv _ _ [] _); refine dav_nil ?_)
  | ((with_reducible show DAv _ _ _ _); refine dav_cons ?_)
  | ((with_reducible show DO _ _ none _); refine do_none ?_)
  | ((with_reducible show DO _ _ _ _); refine do_some ?_)
  | ((with_reducible show ∃ dx dy, DatOf _ (EV.dat _) dx ∧ DatOf _ (EV.dat _) dy ∧ _); refine ⟨_, _, .dat, .dat, ?_⟩)
  | ((with_reducible show ∃ dx dy, DatOf _ (EV.dat _) dx ∧ (EV.dat _) = EV.dat dy ∧ _); refine ⟨_, _, .dat, rfl, ?_⟩)
  | ((with_reducible show ∃ dx dy, DatOf _ _ dx ∧ DatOf _ _ dy ∧ _); first | refine ⟨_, _, .own rfl, .dat, ?_⟩ | refine ⟨_, _, .dat, .own rfl, ?_⟩ | refine ⟨_, _, .own rfl, .own rfl, ?_⟩)
  | ((with_reducible show ∃ dx, DatOf _ (EV.dat _) dx ∧ _); refine ⟨_, .dat, ?_⟩)
  | ((with_reducible show ∃ dx, DatOf _ _ dx ∧ _); refine ⟨_, .own rfl, ?_⟩)
  | ((with_reducible show ∃ d, _ = _ ∧ _); refine ⟨_, rfl, ?_⟩)
  | ((with_reducible show ∃ av : AV, _ ∧ _); first | refine ⟨_, Or.inl ⟨rfl, rfl⟩, ?_⟩ | refine ⟨_, Or.inr ⟨_, rfl, rfl⟩, ?_⟩))
local macro_rules | `(tactic| walk_at "db") => `(tactic| first
  | refine ⟨fun _ => ?_, fun h => Bool.noConfusion h⟩ | refine ⟨fun h => Bool.noConfusion h, fun _ => ?_⟩)
local macro_rules | `(tactic| walk_at "dst") => `(tactic| first
  | ((with_reducible show DS _ _ (Stmt.If _ _ _ _) _ _ _ _); refine ds_if ?_)
  | ((with_reducible show DS _ _ (Stmt.Expr _ _) _ _ _ _); refine ds_expr ?_)
  | ((with_reducible show DS _ _ (Stmt.Pass _) _ _ _ _); refine ds_pass ?_)
  | ((with_reducible show DS _ _ (Stmt.Assign [Expr.Subscript (Expr.Name _ _) (Expr.Constant (Const.int _) _ _) _] _ _) _ _ _ _); refine ds_drwSet (by walk_at "wa") (by walk_at "wv") ?_)
  | ((with_reducible show DS _ _ (Stmt.Return (some (Expr.ListComp _ _ _ _)) _) _ _ _ _); refine ds_retL ?_)
  | ((with_reducible show DS _ _ (Stmt.Return (some (Expr.List _ _)) _) _ _ _ _); refine ds_retL (dl_list ?_))
  | ((with_reducible show DS _ _ (Stmt.Return (some (Expr.Name _ _)) _) _ _ _ _); first
    | refine ds_ret (nm_dat (by walk_at "wa") (by walk_at "wv") (by rfl) ?_)
    | refine ds_retO (nm_own (by walk_at "wa") (by walk_at "wv") (by rfl) ⟨_, _, rfl, rfl, ?_⟩)
    | refine ds_ret ?_)
  | ((with_reducible show DS _ _ (Stmt.Return (some _) _) _ _ _ _); refine ds_ret ?_)
  | ((with_reducible show DS _ _ (Stmt.Assign [Expr.Name _ _] _ _) _ _ _ _); (fail_if_success (with_reducible show DS _ _ (Stmt.Assign [Expr.Name _ _] (Expr.ListComp _ _ _ _) _) _ _ _ _)); (fail_if_success (with_reducible show DS _ _ (Stmt.Assign [Expr.Name _ _] (Expr.List _ _) _) _ _ _ _)); refine st_set (by walk_at "wa") (by walk_at "wa") (by walk_at "wa") ?_))
local macro_rules | `(tactic| walk_at "e") => `(tactic| repeat (first | walk_at "d1" | walk_at "db"))
local macro_rules | `(tactic| walk_at "d") => `(tactic| repeat (first | walk_at "d1" | walk_at "db" | ((with_reducible show DS _ _ _ _ _ _ _); walk_at "dst") | ((with_reducible show DB _ _ [] _ _ _ _); refine db_nil ?_) | ((with_reducible show DB _ _ _ _ _ _ _); refine db_cons ?_)))
local macro_rules | `(tactic| walk_at "ds") => `(tactic| refine st_set (by walk_at "wa") (by walk_at "wa") (by walk_at "wa") ?_)
local macro_rules | `(tactic| walk_at "dsl") => `(tactic| refine st_setL (by walk_at "wa") (by walk_at "wa") (by walk_at "wa") ?_)
local macro_rules | `(tactic| walk_at "dz") => `(tactic| dsimp (config := { proj := false }) only [List.set, List.map, List.replicate, List.cons_append, List.nil_append, AV.sv])
section
variable {P : Program} {w : World} {K : PySem.W.Frag} {mg : Str → Option Value} {base : Heap}
def fs_occurrences : FS := fun avs R => ∃ d, avs = [.dat d] ∧ wf d = true ∧ sz d ≤ 200 ∧ R (.lst ((occ d).map .int))
def WW2 (d : PyData) (m : Nat) (ρ : Rho) : Prop := ∃ (st : List PyData) (fd : List Int) (s3 : SV), ρ = [.dat d, .own st, .own (fd.map .int), s3] ∧ (m : Int) = szs st ∧ (∀ p ∈ st, wf p = true) ∧ fd ++ occs st.reverse = occ d ∧ fd.length + szs st ≤ 200
theorem ok_occurrences {k : Nat} (T : Tp K mg) : Fn P w K mg base (k + 1) "occurrences" fs_occurrences := by
  refine T.d_occurrences.ok sc_occurrences (fun avs R h => ?_) (fun f cdv A outer s H E dr avs R hr hgd h => ?_)
  · obtain ⟨d, rfl, _⟩ := h
    rfl
  obtain ⟨d, rfl, hw, hz, hR⟩ := h
  have T' : Tp (fcx P w K mg base n_occurrences "occurrences" s_occurrences f cdv A outer s H E).K (fcx P w K mg base n_occurrences "occurrences" s_occurrences f cdv A outer s H E).mg := T
  have v0 : (fcx P w K mg base n_occurrences "occurrences" s_occurrences f cdv A outer s H E).N[0]? = some ("shape" : Str) := rfl
  have w0 : Vis (fcx P w K mg base n_occurrences "occurrences" s_occurrences f cdv A outer s H E).env.scope "shape" := by walk_at "dv"
  have l0 : Loc (fcx P w K mg base n_occurrences "occurrences" s_occurrences f cdv A outer s H E).env.scope "shape" := by walk_at "dl"
  have v1 : (fcx P w K mg base n_occurrences "occurrences" s_occurrences f cdv A outer s H E).N[1]? = some ("waiting" : Str) := rfl
  have w1 : Vis (fcx P w K mg base n_occurrences "occurrences" s_occurrences f cdv A outer s H E).env.scope "waiting" := by walk_at "dv"
  have l1 : Loc (fcx P w K mg base n_occurrences "occurrences" s_occurrences f cdv A outer s H E).env.scope "waiting" := by walk_at "dl"
  have v2 : (fcx P w K mg base n_occurrences "occurrences" s_occurrences f cdv A outer s H E).N[2]? = some ("found" : Str) := rfl
  have w2 : Vis (fcx P w K mg base n_occurrences "occurrences" s_occurrences f cdv A outer s H E).env.scope "found" := by walk_at "dv"
  have l2 : Loc (fcx P w K mg base n_occurrences "occurrences" s_occurrences f cdv A outer s H E).env.scope "found" := by walk_at "dl"
  have v3 : (fcx P w K mg base n_occurrences "occurrences" s_occurrences f cdv A outer s H E).N[3]? = some ("here" : Str) := rfl
  have w3 : Vis (fcx P w K mg base n_occurrences "occurrences" s_occurrences f cdv A outer s H E).env.scope "here" := by walk_at "dv"
  have l3 : Loc (fcx P w K mg base n_occurrences "occurrences" s_occurrences f cdv A outer s H E).env.scope "here" := by walk_at "dl"
  have nd : (fcx P w K mg base n_occurrences "occurrences" s_occurrences f cdv A outer s H E).N.Nodup := sc_occurrences.nd
  have b_int := T'.b_int
  have b_isinstance := T'.b_isinstance
  have rm : Rm ⟨(fcx P w K mg base n_occurrences "occurrences" s_occurrences f cdv A outer s H E), H, dr⟩ := rm_of hr
  have gd : Gd ⟨(fcx P w K mg base n_occurrences "occurrences" s_occurrences f cdv A outer s H E), H, dr⟩ := hgd
  rw [show List.replicate (n_occurrences.length - [("shape" : Str)].length) SV.no = [.no, .no, .no] from rfl]
  walk_at "dz"
  refine db_cons ?_
  walk_at "dsl"
  refine dl_list ?_
  walk_at "d"
  walk_at "dsl"
  refine dl_list ?_
  walk_at "d"
  have hz0 := sz_pos d
  refine ds_while (WW2 d) (szs [d]).toNat ⟨[d], [], .no, rfl, ?_, ?_, ?_, ?_⟩ ?_
  · have := szs_pos [d]; omega
  · intro p hp; cases List.mem_singleton.mp hp; exact hw
  · rw [List.reverse_singleton, occs, occs, List.nil_append, List.append_nil]
  · rw [szs, szs, List.length_nil]; omega
  rintro m ρ ⟨st, fd, s3, rfl, hm, hW, hO, hl⟩
  walk_at "d"
  refine ⟨fun h => ?_, fun h => ?_⟩
  · rcases List.eq_nil_or_concat st with rfl | ⟨st, e, rfl⟩
    · exact nomatch h
    rw [List.concat_eq_append] at *
    have he : wf e = true := hW e (by simp)
    have hSt : ∀ p ∈ st, wf p = true := fun p hp => hW p (List.mem_append_left _ hp)
    rw [szs_app, szs, szs] at hm hl
    rw [List.reverse_append, List.reverse_singleton, List.singleton_append, occs] at hO
    have hs0 := szs_pos st
    have hl1 := szs_len st
    have he1 := sz_pos e
    refine db_cons ?_
    refine st_set v3 l3 nd (me_pop v1 w1 rfl ⟨_, rfl, ?_⟩)
    walk_at "dz"
    walk_at "d"
    rcases wf_cases he with ⟨i, rfl⟩ | ⟨hd, ds, rfl, hws, hn⟩
    · refine ⟨fun _ => ?_, fun h => (nomatch h)⟩
      walk_at "d"
      refine me_append v2 w2 rfl ?_
      walk_at "d"
      refine ⟨_, _, rfl, rfl, ?_, ?_⟩
      · rw [List.length_map]; unfold sizeLine; omega
      walk_at "dz"
      walk_at "d"
      rw [sz_int] at hm hl
      refine ⟨(szs st).toNat, by omega, st, fd ++ [i], .dat (.int i), ?_, by omega, hSt, ?_, ?_⟩
      · rw [List.map_append]; rfl
      · rw [occ] at hO
        rw [← hO, List.append_assoc]
      · rw [List.length_append, List.length_singleton]; omega
    · refine ⟨fun h => (nomatch h), fun _ => ?_⟩
      have hn3 := node_len hn
      walk_at "d"
      refine me_extend v1 w1 rfl ?_
      walk_at "d"
      refine ⟨.inr rfl, ds.reverse, st, .inr rfl, rfl, ?_, ?_⟩
      · rw [List.length_reverse]; unfold sizeLine; omega
      walk_at "dz"
      walk_at "d"
      have hz1 : sz (.tuple (hd :: ds)) = 1 + szs ds := by rw [sz]
      rw [hz1] at hm hl
      have hd0 := szs_pos ds
      refine ⟨(szs (st ++ ds.reverse)).toNat, ?_, st ++ ds.reverse, fd, .dat (.tuple (hd :: ds)), rfl, ?_, ?_, ?_, ?_⟩
      · rw [szs_app, szs_rev]; omega
      · rw [szs_app, szs_rev]; omega
      · intro p hp
        rcases List.mem_append.mp hp with hp | hp
        · exact hSt p hp
        · exact wfs_mem hws (List.mem_reverse.mp hp)
      · rw [List.reverse_append, List.reverse_reverse, occs_app]
        rw [occ] at hO
        exact hO
      · rw [szs_app, szs_rev]; omega
  · have hst : st = [] := by
      cases st with
      | nil => rfl
      | cons _ _ => exact nomatch h
    subst hst
    rw [List.reverse_nil, occs, List.append_nil] at hO
    subst hO
    walk_at "d"
    exact hR
def fs_count_nodes (n : Nat) : FS := fun avs R => ∃ d, avs = [.dat d] ∧ wf d = true ∧ ht d ≤ n ∧ R (.dat (.int (sz d)))
theorem none_count_nodes {avs : List AV} {R : RV → Prop} (h : fs_count_nodes 0 avs R) : False := by
  obtain ⟨d, _, _, h, _⟩ := h
  have := ht_pos d
  omega
theorem ok_count_nodes {b : Nat} (T : Tp K mg) (n : Nat) : Fn P w K mg base (b + n) "count_nodes" (fs_count_nodes n) := by
  induction n with
  | zero => exact T.d_count_nodes.none (fun avs R h => none_count_nodes h)
  | succ n F_count_nodes =>
  refine T.d_count_nodes.ok sc_count_nodes (fun avs R h => ?_) (fun f cdv A outer s H E dr avs R hr hgd h => ?_)
  · obtain ⟨d, rfl, _⟩ := h
    rfl
  obtain ⟨d, rfl, hw, hh, hR⟩ := h
  have T' : Tp (fcx P w K mg base n_count_nodes "count_nodes" s_count_nodes f cdv A outer s H E).K (fcx P w K mg base n_count_nodes "count_nodes" s_count_nodes f cdv A outer s H E).mg := T
  have v0 : (fcx P w K mg base n_count_nodes "count_nodes" s_count_nodes f cdv A outer s H E).N[0]? = some ("shape" : Str) := rfl
  have w0 : Vis (fcx P w K mg base n_count_nodes "count_nodes" s_count_nodes f cdv A outer s H E).env.scope "shape" := by walk_at "dv"
  have l0 : Loc (fcx P w K mg base n_count_nodes "count_nodes" s_count_nodes f cdv A outer s H E).env.scope "shape" := by walk_at "dl"
  have v1 : (fcx P w K mg base n_count_nodes "count_nodes" s_count_nodes f cdv A outer s H E).N[1]? = some ("part" : Str) := rfl
  have nd : (fcx P w K mg base n_count_nodes "count_nodes" s_count_nodes f cdv A outer s H E).N.Nodup := sc_count_nodes.nd
  have c_count_nodes := Fn.cal (X := (fcx P w K mg base n_count_nodes "count_nodes" s_count_nodes f cdv A outer s H E)) F_count_nodes hr hgd
  have b_int := T'.b_int
  have b_isinstance := T'.b_isinstance
  have b_sum := T'.b_sum
  have rm : Rm ⟨(fcx P w K mg base n_count_nodes "count_nodes" s_count_nodes f cdv A outer s H E), H, dr⟩ := rm_of hr
  have gd : Gd ⟨(fcx P w K mg base n_count_nodes "count_nodes" s_count_nodes f cdv A outer s H E), H, dr⟩ := hgd
  rw [show List.replicate (n_count_nodes.length - [("shape" : Str)].length) SV.no = [.no] from rfl]
  walk_at "dz"
  walk_at "d"
  rcases wf_cases hw with ⟨i, rfl⟩ | ⟨h, ds, rfl, hws, hn⟩
  · refine ⟨fun _ => ?_, fun h => (nomatch h)⟩
    walk_at "d"
    rw [sz_int] at hR
    exact hR
  · refine ⟨fun h => (nomatch h), fun _ => ?_⟩
    have hn3 := node_len hn
    walk_at "d"
    refine DL.de (lc_mapA v1 nd rfl id (fun d => .int (sz d)) (di_tup ?_))
    walk_at "d"
    rw [cut_1]
    refine ⟨ds, (List.map_id _).symm, rfl, by unfold sizeLine; omega, fun z hz s1 H1 C1 cl fp Hx => ?_, ?_⟩
    · walk_at "d"
      refine ⟨z, rfl, wfs_mem hws hz, ?_, rfl, rfl⟩
      have := hts_mem hz
      rw [ht] at hh
      omega
    walk_at "d"
    refine dc_sumA rfl ?_
    walk_at "d"
    rw [szs_sum]
    rw [sz] at hR
    exact hR
end
end K01
namespace K01
open PySem L2 DW PyProof.Rows
local macro_rules | `(tactic| walk_at "dv") => `(tactic| first | exact Or.inl rfl | exact Or.inr (Or.inl rfl) | exact Or.inr (Or.inr rfl))
local macro_rules | `(tactic| walk_at "dl") => `(tactic| first | exact Or.inl rfl | exact Or.inr rfl)
local macro_rules | `(tactic| walk_at "wv") => `(tactic| first | with_reducible assumption | walk_at "dv")
local macro_rules | `(tactic| walk_at "wa") => `(tactic| with_reducible assumption)
local macro_rules | `(tactic| walk_at "rm") => `(tactic| first | with_reducible assumption | (apply Rm.blk; with_reducible assumption))
local macro_rules | `(tactic| walk_at "dn") => `(tactic| first
  | refine nm_dat (by walk_at "wa") (by walk_at "wv") (by rfl) ?_ | refine nm_own (by walk_at "wa") (by walk_at "wv") (by rfl) ?_ | refine nm_drw (by walk_at "wa") (by walk_at "wv") (by rfl) ?_ | refine nm_scr (by walk_at "wa") (by walk_at "wv") (by rfl) ?_
  | refine de_globI (by walk_at "wa") rfl ?_ | refine de_globS (by walk_at "wa") rfl ?_)
local macro_rules | `(tactic| walk_at "dci") => `(tactic| first
  | ((with_reducible show DE _ _ (Expr.Call _ [_, Expr.Name "int" _] _ _) _); refine de_is kInt bt_int (by walk_at "wa") (by walk_at "wa") ?_)
  | ((with_reducible show DE _ _ (Expr.Call _ [_, Expr.Name "bool" _] _ _) _); refine de_is kBool bt_bool (by walk_at "wa") (by walk_at "wa") ?_)
  | ((with_reducible show DE _ _ (Expr.Call _ [_, Expr.Name "str" _] _ _) _); refine de_is kStr bt_str (by walk_at "wa") (by walk_at "wa") ?_)
  | ((with_reducible show DE _ _ (Expr.Call _ [_, Expr.Name "tuple" _] _ _) _); refine de_is kTup bt_tuple (by walk_at "wa") (by walk_at "wa") ?_)
  | ((with_reducible show DE _ _ (Expr.Call _ [_, Expr.Name "list" _] _ _) _); refine de_is kLst bt_list (by walk_at "wa") (by walk_at "wa") ?_)
  | ((with_reducible show DE _ _ (Expr.Call _ [_, Expr.Tuple [Expr.Name "tuple" _, Expr.Name "list" _] _ _] _ _) _); refine de_is2 kTup kLst bt_tuple bt_list (by walk_at "wa") (by walk_at "wa") (by walk_at "wa") ?_)
  | ((with_reducible show DE _ _ (Expr.Call _ [_, Expr.Tuple [Expr.Name "int" _, Expr.Name "tuple" _] _ _] _ _) _); refine de_is2 kInt kTup bt_int bt_tuple (by walk_at "wa") (by walk_at "wa") (by walk_at "wa") ?_))
local macro_rules | `(tactic| walk_at "dc") => `(tactic| first
  | ((with_reducible show DE _ _ (Expr.Call (Expr.Name "isinstance" _) _ _ _) _); walk_at "dci")
  | ((with_reducible show DE _ _ (Expr.Call (Expr.Name "len" _) [Expr.Name _ _] _ _) _); refine len_scr (by walk_at "wa") (by walk_at "wv") (by rfl) (by walk_at "wa") ?_)
  | ((with_reducible show DE _ _ (Expr.Call (Expr.Name "len" _) _ _ _) _); refine de_b1 bb_len (by walk_at "wa") ?_)
  | ((with_reducible show DE _ _ (Expr.Call (Expr.Name "abs" _) _ _ _) _); refine de_b1 bb_abs (by walk_at "wa") ?_)
  | ((with_reducible show DE _ _ (Expr.Call (Expr.Name "repr" _) _ _ _) _); refine de_b1 bb_repr (by walk_at "wa") ?_)
  | ((with_reducible show DE _ _ (Expr.Call (Expr.Name "all" _) _ _ _) _); refine de_b1 bb_all (by walk_at "wa") ?_)
  | ((with_reducible show DE _ _ (Expr.Call (Expr.Name "any" _) _ _ _) _); refine de_b1 bb_any (by walk_at "wa") ?_)
  | ((with_reducible show DE _ _ (Expr.Call (Expr.Name "sum" _) _ _ _) _); refine de_b1 bb_sum (by walk_at "wa") ?_)
  | ((with_reducible show DE _ _ (Expr.Call (Expr.Name "max" _) _ _ _) _); refine de_b1 bb_max (by walk_at "wa") ?_)
  | ((with_reducible show DE _ _ (Expr.Call (Expr.Name "int" _) _ _ _) _); refine de_t1 bt_int (by walk_at "wa") ?_)
  | ((with_reducible show DE _ _ (Expr.Call (Expr.Name "tuple" _) _ _ _) _); refine de_t1 bt_tuple (by walk_at "wa") ?_)
  | ((with_reducible show DE _ _ (Expr.Call (Expr.Name "min" _) _ _ _) _); refine de_b2 bb_min (by walk_at "wa") ?_)
  | ((with_reducible show DE ⟨blkX _ _ _ _ _ _ _, _, _⟩ _ _ _); refine de_fB (by walk_at "wa") ?_)
  | refine de_f (by walk_at "wa") ?_)
local macro_rules | `(tactic| walk_at "de") => `(tactic| first
  | ((with_reducible show DE _ _ (Expr.Name _ _) _); walk_at "dn")
  | ((with_reducible show DE _ _ (Expr.Call (Expr.Name _ _) _ _ _) _); walk_at "dc")
  | ((with_reducible show DE _ _ (Expr.Constant (Const.int _) _ _) _); refine de_int ?_)
  | ((with_reducible show DE _ _ (Expr.Constant (Const.str _) _ _) _); refine de_str ?_)
  | ((with_reducible show DE _ _ (Expr.Constant (Const.bool _) _ _) _); refine de_bl ?_)
  | ((with_reducible show DE _ _ (Expr.Constant Const.none _ _) _); refine de_non ?_)
  | ((with_reducible show DE _ _ (Expr.Compare _ [_] _ _) _); refine de_cmp ?_)
  | ((with_reducible show DE _ _ (Expr.Compare _ [_, _] _ _) _); refine de_chain ?_)
  | ((with_reducible show DE _ _ (Expr.BinOp (Expr.List _ _) Operator.Add _ _) _); refine DL.de (dl_op ?_))
  | ((with_reducible show DE _ _ (Expr.BinOp _ Operator.Add (Expr.List _ _) _) _); refine DL.de (dl_op ?_))
  | ((with_reducible show DE _ _ (Expr.BinOp _ _ _ _) _); refine de_op ?_)
  | ((with_reducible show DE _ _ (Expr.Dict [] [] _) _); refine de_dic0 ?_)
  | ((with_reducible show DE _ _ (Expr.List _ _) _); refine DL.de (dl_list ?_))
  | ((with_reducible show DE _ _ (Expr.Subscript _ (Expr.Slice _ _ (some _) _) _) _); refine de_revT ?_)
  | ((with_reducible show DE _ _ (Expr.Subscript (Expr.Name _ _) (Expr.Slice _ _ none _) _) _); first
    | refine de_slT (nm_dat (d := PyData.tuple _) (by walk_at "wa") (by walk_at "wv") (by rfl) ?_)
    | refine de_slS (nm_dat (d := PyData.str _) (by walk_at "wa") (by walk_at "wv") (by rfl) ?_)
    | refine DL.de (dl_slL (nm_dat (d := PyData.list _) (by walk_at "wa") (by walk_at "wv") (by rfl) ?_)))
  | ((with_reducible show DE _ _ (Expr.Subscript _ (Expr.Slice _ _ none _) _) _); refine de_slT ?_)
  | ((with_reducible show DE _ _ (Expr.Subscript (Expr.Name _ _) (Expr.Constant (Const.int _) _ _) _) _); refine de_drwIx (by walk_at "wa") (by walk_at "wv") (by rfl) (by decide) ?_)
  | ((with_reducible show DE _ _ (Expr.Subscript _ _ _) _); refine de_ix ?_)
  | ((with_reducible show DE _ _ (Expr.Tuple _ _ _) _); refine de_tuple ?_)
  | ((with_reducible show DE _ _ (Expr.BoolOp _ [_] _) _); refine de_one ?_)
  | ((with_reducible show DE _ _ (Expr.BoolOp BoolOp.And _ _) _); refine de_and ?_)
  | ((with_reducible show DE _ _ (Expr.BoolOp BoolOp.Or _ _) _); refine de_or ?_)
  | ((with_reducible show DE _ _ (Expr.UnaryOp UnaryOp.Not _ _) _); refine de_not ?_)
  | ((with_reducible show DE _ _ (Expr.UnaryOp UnaryOp.USub _ _) _); refine de_neg ?_)
  | ((with_reducible show DE _ _ (Expr.IfExp _ _ _ _) _); refine de_if ?_))
local macro_rules | `(tactic| walk_at "dop") => `(tactic| first
  | ((with_reducible show DOp _ (binaryOp Operator.Add) (PyData.int _) (PyData.int _) _); refine do_add ?_)
  | ((with_reducible show DOp _ (binaryOp Operator.Sub) (PyData.int _) (PyData.int _) _); refine do_sub ?_)
  | ((with_reducible show DOp _ (binaryOp Operator.Mult) (PyData.int _) (PyData.int _) _); first | refine do_mul ?_ (by first | exact Or.inl ⟨by decide, by decide⟩ | exact Or.inr ⟨by decide, by decide⟩) | refine do_mul ?_ ?_)
  | ((with_reducible show DOp _ (binaryOp Operator.FloorDiv) (PyData.int _) (PyData.int _) _); first | refine do_fdiv ?_ ⟨by first | decide | with_reducible assumption | omega, by first | decide | with_reducible assumption | omega⟩ | refine do_fdiv ?_ ?_)
  | ((with_reducible show DOp _ (binaryOp Operator.Mod) (PyData.int _) (PyData.int _) _); first | refine do_mod ?_ (by first | decide | with_reducible assumption | omega) | refine do_mod ?_ ?_)
  | ((with_reducible show DOp _ (binaryOp Operator.Pow) (PyData.int _) (PyData.int _) _); first | refine do_pow ?_ ⟨by decide, by decide, by decide⟩ | refine do_pow ?_ ?_)
  | ((with_reducible show DOp _ (compareOp CmpOp.Lt) (PyData.int _) (PyData.int _) _); refine do_lt ?_)
  | ((with_reducible show DOp _ (compareOp CmpOp.LtE) (PyData.int _) (PyData.int _) _); refine do_le ?_)
  | ((with_reducible show DOp _ (compareOp CmpOp.Gt) (PyData.int _) (PyData.int _) _); refine do_gt ?_)
  | ((with_reducible show DOp _ (compareOp CmpOp.GtE) (PyData.int _) (PyData.int _) _); refine do_ge ?_)
  | ((with_reducible show DOp _ (compareOp CmpOp.Eq) (PyData.int _) (PyData.int _) _); refine do_eqI ?_)
  | ((with_reducible show DOp _ (compareOp CmpOp.NotEq) (PyData.int _) (PyData.int _) _); refine do_neI ?_)
  | ((with_reducible show DOp _ (compareOp CmpOp.Eq) (PyData.str _) (PyData.str _) _); refine do_eqS ?_)
  | ((with_reducible show DOp _ (compareOp CmpOp.NotEq) (PyData.str _) (PyData.str _) _); refine do_neS ?_)
  | ((with_reducible show DOp _ (compareOp CmpOp.Eq) (PyData.bool _) (PyData.bool _) _); refine do_eqB ?_)
  | ((with_reducible show DOp _ (compareOp CmpOp.NotEq) (PyData.bool _) (PyData.bool _) _); refine do_neB ?_)
  | ((with_reducible show DOp _ (compareOp CmpOp.NotEq) (PyData.list _) (PyData.list []) _); refine do_neL0 (by walk_at "rm") ?_)
  | ((with_reducible show DOp _ (compareOp CmpOp.Eq) (PyData.list _) (PyData.list []) _); refine do_eqL0 (by walk_at "rm") ?_)
  | ((with_reducible show DOp _ (compareOp CmpOp.Eq) (PyData.tuple _) (PyData.tuple []) _); refine do_eqT0 (by walk_at "rm") ?_)
  | ((with_reducible show DOp _ (compareOp CmpOp.Is) _ PyData.none _); refine do_isN ?_)
  | ((with_reducible show DOp _ (compareOp CmpOp.IsNot) _ PyData.none _); refine do_notN ?_)
  | ((with_reducible show DOp _ (compareOp CmpOp.In) (PyData.str ⟨#[_]⟩) (PyData.str _) _); refine do_inS ?_)
  | ((with_reducible show DOp _ (compareOp CmpOp.NotIn) (PyData.str ⟨#[_]⟩) (PyData.str _) _); refine do_ninS ?_))
local macro_rules | `(tactic| walk_at "dca") => `(tactic| first
  | ((with_reducible show DCall _ (Value.builtin "len") [PyData.tuple _] _); refine dc_len (n := List.length _) ?_ rfl)
  | ((with_reducible show DCall _ (Value.builtin "len") [PyData.list _] _); refine dc_len (n := List.length _) ?_ rfl)
  | ((with_reducible show DCall _ (Value.builtin "len") [PyData.str _] _); refine dc_len ?_ ⟨rfl, ?_⟩)
  | ((with_reducible show DCall _ (Value.builtin "abs") _ _); refine dc_abs ?_)
  | ((with_reducible show DCall _ (Value.builtin "min") _ _); refine dc_min2 rfl ?_)
  | ((with_reducible show DCall _ (Value.type "int") [PyData.bool _] _); refine dc_intB ?_)
  | ((with_reducible show DCall _ (Value.type "tuple") [PyData.list _] _); refine dc_tupL ?_)
  | ((with_reducible show DCall _ (Value.type "tuple") [PyData.tuple _] _); refine dc_tupT ?_))
local macro_rules | `(tactic| walk_at "dix") => `(tactic| first
  | ((with_reducible show DIx _ _ (PyData.int 0) _); first | refine dix_t0 ?_ | refine dix_l0 ?_)
  | ((with_reducible show DIx _ _ (PyData.int 1) _); first | refine dix_t1 ?_ | refine dix_l1 ?_)
  | ((with_reducible show DIx _ _ (PyData.int 2) _); first | refine dix_t2 ?_ | refine dix_l2 ?_))
local macro_rules | `(tactic| walk_at "dt") => `(tactic| first
  | ((with_reducible show DT _ _ (Expr.BoolOp BoolOp.And _ _) _); refine DW.DW.dt (dw_and ?_))
  | ((with_reducible show DT _ _ (Expr.BoolOp BoolOp.Or _ _) _); refine DW.DW.dt (dw_or ?_))
  | ((with_reducible show DT _ _ (Expr.Compare _ [_] _ _) _); refine dt_cmp ?_)
  | ((with_reducible show DT _ _ (Expr.Compare _ [_, _] _ _) _); refine dt_chain ?_)
  | ((with_reducible show DT _ _ (Expr.UnaryOp UnaryOp.Not _ _) _); refine dt_not ?_)
  | refine dt_val ?_)
local macro_rules | `(tactic| walk_at "d1") => `(tactic| first
  | ((with_reducible show DE _ _ _ _); walk_at "de")
  | ((with_reducible show DT _ _ _ _); walk_at "dt")
  | ((with_reducible show DOp _ _ _ _ _); walk_at "dop")
  | ((with_reducible show DOpL _ (binaryOp Operator.Add) (PyData.list _) (PyData.list _) _); refine dol_cat ?_ ?_)
  | ((with_reducible show DCall _ _ _ _); walk_at "dca")
  | ((with_reducible show DIx _ _ _ _); walk_at "dix")
  | ((with_reducible show DW.DW _ _ (Expr.BoolOp BoolOp.And [_] _) _); refine dw_and1 ?_)
  | ((with_reducible show DW.DW _ _ (Expr.BoolOp BoolOp.Or [_] _) _); refine dw_or1 ?_)
  | ((with_reducible show DW.DW _ _ (Expr.BoolOp BoolOp.And _ _) _); refine dw_and ?_)
  | ((with_reducible show DW.DW _ _ (Expr.BoolOp BoolOp.Or _ _) _); refine dw_or ?_)
  | ((with_reducible show DAd _ _ [] _); refine dad_nil ?_)
  | ((with_reducible show DAd _ _ _ _); refine dad_cons ?_)
  | ((with_reducible show DAv _ _ [] _); refine dav_nil ?_)
  | ((with_reducible show DAv _ _ _ _); refine dav_cons ?_)
  | ((with_reducible show DO _ _ none _); refine do_none ?_)
  | ((with_reducible show DO _ _ _ _); refine do_some ?_)
  | ((with_reducible show ∃ dx dy, DatOf _ (EV.dat _) dx ∧ DatOf _ (EV.dat _) dy ∧ _); refine ⟨_, _, .dat, .dat, ?_⟩)
  | ((with_reducible show ∃ dx dy, DatOf _ (EV.dat _) dx ∧ (EV.dat _) = EV.dat dy ∧ _); refine ⟨_, _, .dat, rfl, ?_⟩)
  | ((with_reducible show ∃ dx dy, DatOf _ _ dx ∧ DatOf _ _ dy ∧ _); first | refine ⟨_, _, .own rfl, .dat, ?_⟩ | refine ⟨_, _, .dat, .own rfl, ?_⟩ | refine ⟨_, _, .own rfl, .own rfl, ?_⟩)
  | ((with_reducible show ∃ dx, DatOf _ (EV.dat _) dx ∧ _); refine ⟨_, .dat, ?_⟩)
  | ((with_reducible show ∃ dx, DatOf _ _ dx ∧ _); refine ⟨_, .own rfl, ?_⟩)
  | ((with_reducible show ∃ d, _ = _ ∧ _); refine ⟨_, rfl, ?_⟩)
  | ((with_reducible show ∃ av : AV, _ ∧ _); first | refine ⟨_, Or.inl ⟨rfl, rfl⟩, ?_⟩ | refine ⟨_, Or.inr ⟨_, rfl, rfl⟩, ?_⟩))
local macro_rules | `(tactic| walk_at "db") => `(tactic| first
  | refine ⟨fun _ => ?_, fun h => Bool.noConfusion h⟩ | refine ⟨fun h => Bool.noConfusion h, fun _ => ?_⟩)
local macro_rules | `(tactic| walk_at "dst") => `(tactic| first
  | ((with_reducible show DS _ _ (Stmt.If _ _ _ _) _ _ _ _); refine ds_if ?_)
  | ((with_reducible show DS _ _ (Stmt.Expr _ _) _ _ _ _); refine ds_expr ?_)
  | ((with_reducible show DS _ _ (Stmt.Pass _) _ _ _ _); refine ds_pass ?_)
  | ((with_reducible show DS _ _ (Stmt.Assign [Expr.Subscript (Expr.Name _ _) (Expr.Constant (Const.int _) _ _) _] _ _) _ _ _ _); refine ds_drwSet (by walk_at "wa") (by walk_at "wv") ?_)
  | ((with_reducible show DS _ _ (Stmt.Return (some (Expr.ListComp _ _ _ _)) _) _ _ _ _); refine ds_retL ?_)
  | ((with_reducible show DS _ _ (Stmt.Return (some (Expr.List _ _)) _) _ _ _ _); refine ds_retL (dl_list ?_))
  | ((with_reducible show DS _ _ (Stmt.Return (some (Expr.Name _ _)) _) _ _ _ _); first
    | refine ds_ret (nm_dat (by walk_at "wa") (by walk_at "wv") (by rfl) ?_)
    | refine ds_retO (nm_own (by walk_at "wa") (by walk_at "wv") (by rfl) ⟨_, _, rfl, rfl, ?_⟩)
    | refine ds_ret ?_)
  | ((with_reducible show DS _ _ (Stmt.Return (some _) _) _ _ _ _); refine ds_ret ?_)
  | ((with_reducible show DS _ _ (Stmt.Assign [Expr.Name _ _] _ _) _ _ _ _); (fail_if_success (with_reducible show DS _ _ (Stmt.Assign [Expr.Name _ _] (Expr.ListComp _ _ _ _) _) _ _ _ _)); (fail_if_success (with_reducible show DS _ _ (Stmt.Assign [Expr.Name _ _] (Expr.List _ _) _) _ _ _ _)); refine st_set (by walk_at "wa") (by walk_at "wa") (by walk_at "wa") ?_))
local macro_rules | `(tactic| walk_at "e") => `(tactic| repeat (first | walk_at "d1" | walk_at "db"))
local macro_rules | `(tactic| walk_at "d") => `(tactic| repeat (first | walk_at "d1" | walk_at "db" | ((with_reducible show DS _ _ _ _ _ _ _); walk_at "dst") | ((with_reducible show DB _ _ [] _ _ _ _); refine db_nil ?_) | ((with_reducible show DB _ _ _ _ _ _ _); refine db_cons ?_)))
local macro_rules | `(tactic| walk_at "ds") => `(tactic| refine st_set (by walk_at "wa") (by walk_at "wa") (by walk_at "wa") ?_)
local macro_rules | `(tactic| walk_at "dsl") => `(tactic| refine st_setL (by walk_at "wa") (by walk_at "wa") (by walk_at "wa") ?_)
local macro_rules | `(tactic| walk_at "dz") => `(tactic| dsimp (config := { proj := false }) only [List.set, List.map, List.replicate, List.cons_append, List.nil_append, AV.sv])
section
variable {P : Program} {w : World} {K : PySem.W.Frag} {mg : Str → Option Value} {base : Heap}
def fs_L_draws : FS := fun avs R => ∃ ns : List Int, avs = [.scr ns] ∧ ns.length ≤ 63 ∧ ∀ g m : Int, 0 ≤ g → 0 ≤ m → m < 2 ^ 61 → R (.lst [.int g, .int m, .int 0])
def fs_L_next : FS := fun avs R => ∃ n : Int, avs = [.drw, .dat (.int n)] ∧ 0 < n ∧ n < 1073741824 ∧ ∀ r : Int, 0 ≤ r → r < n → R (.dat (.int r))
def fs_L_one : FS := fun avs R => ∃ ds, avs = [.drw, .dat (.list ds)] ∧ ds ≠ [] ∧ ds.length < 1073741824 ∧ ∀ d ∈ ds, R (.dat d)
theorem ok_L_next {k : Nat} (T : Tp K mg) : Fn P w K mg base (k + 1) "_law_next" fs_L_next := by
  refine T.d_L_next.ok sc_L_next (fun avs R h => ?_) (fun f cdv A outer s H E dr avs R hr hgd h => ?_)
  · obtain ⟨d, rfl, _⟩ := h
    rfl
  obtain ⟨n, rfl, hn0, hn1, hR⟩ := h
  have T' : Tp (fcx P w K mg base n_L_next "_law_next" s_L_next f cdv A outer s H E).K (fcx P w K mg base n_L_next "_law_next" s_L_next f cdv A outer s H E).mg := T
  have v0 : (fcx P w K mg base n_L_next "_law_next" s_L_next f cdv A outer s H E).N[0]? = some ("_law_drawn" : Str) := rfl
  have w0 : Vis (fcx P w K mg base n_L_next "_law_next" s_L_next f cdv A outer s H E).env.scope "_law_drawn" := by walk_at "dv"
  have l0 : Loc (fcx P w K mg base n_L_next "_law_next" s_L_next f cdv A outer s H E).env.scope "_law_drawn" := by walk_at "dl"
  have v1 : (fcx P w K mg base n_L_next "_law_next" s_L_next f cdv A outer s H E).N[1]? = some ("_law_many" : Str) := rfl
  have w1 : Vis (fcx P w K mg base n_L_next "_law_next" s_L_next f cdv A outer s H E).env.scope "_law_many" := by walk_at "dv"
  have l1 : Loc (fcx P w K mg base n_L_next "_law_next" s_L_next f cdv A outer s H E).env.scope "_law_many" := by walk_at "dl"
  have v2 : (fcx P w K mg base n_L_next "_law_next" s_L_next f cdv A outer s H E).N[2]? = some ("_law_digit" : Str) := rfl
  have w2 : Vis (fcx P w K mg base n_L_next "_law_next" s_L_next f cdv A outer s H E).env.scope "_law_digit" := by walk_at "dv"
  have l2 : Loc (fcx P w K mg base n_L_next "_law_next" s_L_next f cdv A outer s H E).env.scope "_law_digit" := by walk_at "dl"
  have v3 : (fcx P w K mg base n_L_next "_law_next" s_L_next f cdv A outer s H E).N[3]? = some ("_law_mixed" : Str) := rfl
  have w3 : Vis (fcx P w K mg base n_L_next "_law_next" s_L_next f cdv A outer s H E).env.scope "_law_mixed" := by walk_at "dv"
  have l3 : Loc (fcx P w K mg base n_L_next "_law_next" s_L_next f cdv A outer s H E).env.scope "_law_mixed" := by walk_at "dl"
  have nd : (fcx P w K mg base n_L_next "_law_next" s_L_next f cdv A outer s H E).N.Nodup := sc_L_next.nd
  have rm : Rm ⟨(fcx P w K mg base n_L_next "_law_next" s_L_next f cdv A outer s H E), H, dr⟩ := rm_of hr
  have gd : Gd ⟨(fcx P w K mg base n_L_next "_law_next" s_L_next f cdv A outer s H E), H, dr⟩ := hgd
  rw [show List.replicate (n_L_next.length - [("_law_drawn" : Str), ("_law_many" : Str)].length) SV.no = [.no, .no] from rfl]
  walk_at "dz"
  walk_at "d"
  intro g1 hg1
  walk_at "d"
  refine ⟨fun _ => ?_, fun _ => ?_⟩
  · walk_at "d"
    intro g2 hg2
    walk_at "d"
    intro g3 hg3
    walk_at "d"
    refine ⟨⟨?_, .inl rfl⟩, rfl, ?_⟩
    · exact Int.ediv_nonneg hg3.1 (by omega)
    walk_at "d"
    exact hR _ (Int.emod_nonneg _ (by omega)) (Int.emod_lt_of_pos _ hn0)
  · walk_at "d"
    intro g3 hg3
    walk_at "d"
    refine ⟨⟨by have := hg3.1; omega, .inr (.inl rfl)⟩, rfl, ?_⟩
    walk_at "d"
    intro g4 hg4
    walk_at "d"
    intro g5 hg5
    walk_at "d"
    · exact hR _ (Int.emod_nonneg _ (by omega)) (Int.emod_lt_of_pos _ hn0)
    · exact cmul_mod (by decide) (by decide)
    · exact cmul_mod (by decide) (by decide)
theorem ok_L_one {k : Nat} (T : Tp K mg) (F_L_next : Fn P w K mg base k "_law_next" fs_L_next) : Fn P w K mg base (k + 1) "_law_one" fs_L_one := by
  refine T.d_L_one.ok sc_L_one (fun avs R h => ?_) (fun f cdv A outer s H E dr avs R hr hgd h => ?_)
  · obtain ⟨d, rfl, _⟩ := h
    rfl
  obtain ⟨ds, rfl, hn0, hn1, hR⟩ := h
  have T' : Tp (fcx P w K mg base n_L_one "_law_one" s_L_one f cdv A outer s H E).K (fcx P w K mg base n_L_one "_law_one" s_L_one f cdv A outer s H E).mg := T
  have v0 : (fcx P w K mg base n_L_one "_law_one" s_L_one f cdv A outer s H E).N[0]? = some ("_law_drawn" : Str) := rfl
  have w0 : Vis (fcx P w K mg base n_L_one "_law_one" s_L_one f cdv A outer s H E).env.scope "_law_drawn" := by walk_at "dv"
  have l0 : Loc (fcx P w K mg base n_L_one "_law_one" s_L_one f cdv A outer s H E).env.scope "_law_drawn" := by walk_at "dl"
  have v1 : (fcx P w K mg base n_L_one "_law_one" s_L_one f cdv A outer s H E).N[1]? = some ("_law_items" : Str) := rfl
  have w1 : Vis (fcx P w K mg base n_L_one "_law_one" s_L_one f cdv A outer s H E).env.scope "_law_items" := by walk_at "dv"
  have l1 : Loc (fcx P w K mg base n_L_one "_law_one" s_L_one f cdv A outer s H E).env.scope "_law_items" := by walk_at "dl"
  have nd : (fcx P w K mg base n_L_one "_law_one" s_L_one f cdv A outer s H E).N.Nodup := sc_L_one.nd
  have c_L_next := Fn.cal (X := (fcx P w K mg base n_L_one "_law_one" s_L_one f cdv A outer s H E)) F_L_next hr hgd
  have b_len := T'.b_len
  have rm : Rm ⟨(fcx P w K mg base n_L_one "_law_one" s_L_one f cdv A outer s H E), H, dr⟩ := rm_of hr
  have gd : Gd ⟨(fcx P w K mg base n_L_one "_law_one" s_L_one f cdv A outer s H E), H, dr⟩ := hgd
  rw [show List.replicate (n_L_one.length - [("_law_drawn" : Str), ("_law_items" : Str)].length) SV.no = [] from rfl]
  walk_at "dz"
  walk_at "d"
  have hl : 0 < ds.length := List.length_pos_iff.mpr hn0
  refine ⟨_, rfl, by omega, by omega, fun r h0 h1 => ?_⟩
  walk_at "d"
  obtain ⟨j, rfl⟩ := Int.eq_ofNat_of_zero_le h0
  have hj : j < ds.length := by omega
  refine dix_lst (atI_nat (List.getElem?_eq_getElem hj)) ?_
  walk_at "d"
  exact hR _ (List.getElem_mem hj)
theorem ok_L_draws {k : Nat} (T : Tp K mg) : Fn P w K mg base (k + 1) "_law_draws" fs_L_draws := by
  refine T.d_L_draws.ok sc_L_draws (fun avs R h => ?_) (fun f cdv A outer s H E dr avs R hr hgd h => ?_)
  · obtain ⟨d, rfl, _⟩ := h
    rfl
  obtain ⟨ns, rfl, hn, hR⟩ := h
  have T' : Tp (fcx P w K mg base n_L_draws "_law_draws" s_L_draws f cdv A outer s H E).K (fcx P w K mg base n_L_draws "_law_draws" s_L_draws f cdv A outer s H E).mg := T
  have v0 : (fcx P w K mg base n_L_draws "_law_draws" s_L_draws f cdv A outer s H E).N[0]? = some ("_law_script" : Str) := rfl
  have w0 : Vis (fcx P w K mg base n_L_draws "_law_draws" s_L_draws f cdv A outer s H E).env.scope "_law_script" := by walk_at "dv"
  have l0 : Loc (fcx P w K mg base n_L_draws "_law_draws" s_L_draws f cdv A outer s H E).env.scope "_law_script" := by walk_at "dl"
  have v1 : (fcx P w K mg base n_L_draws "_law_draws" s_L_draws f cdv A outer s H E).N[1]? = some ("_law_great" : Str) := rfl
  have w1 : Vis (fcx P w K mg base n_L_draws "_law_draws" s_L_draws f cdv A outer s H E).env.scope "_law_great" := by walk_at "dv"
  have l1 : Loc (fcx P w K mg base n_L_draws "_law_draws" s_L_draws f cdv A outer s H E).env.scope "_law_great" := by walk_at "dl"
  have v2 : (fcx P w K mg base n_L_draws "_law_draws" s_L_draws f cdv A outer s H E).N[2]? = some ("_law_mixed" : Str) := rfl
  have w2 : Vis (fcx P w K mg base n_L_draws "_law_draws" s_L_draws f cdv A outer s H E).env.scope "_law_mixed" := by walk_at "dv"
  have l2 : Loc (fcx P w K mg base n_L_draws "_law_draws" s_L_draws f cdv A outer s H E).env.scope "_law_mixed" := by walk_at "dl"
  have v3 : (fcx P w K mg base n_L_draws "_law_draws" s_L_draws f cdv A outer s H E).N[3]? = some ("_law_cell" : Str) := rfl
  have w3 : Vis (fcx P w K mg base n_L_draws "_law_draws" s_L_draws f cdv A outer s H E).env.scope "_law_cell" := by walk_at "dv"
  have l3 : Loc (fcx P w K mg base n_L_draws "_law_draws" s_L_draws f cdv A outer s H E).env.scope "_law_cell" := by walk_at "dl"
  have nd : (fcx P w K mg base n_L_draws "_law_draws" s_L_draws f cdv A outer s H E).N.Nodup := sc_L_draws.nd
  have b_abs := T'.b_abs
  have b_int := T'.b_int
  have b_len := T'.b_len
  have rm : Rm ⟨(fcx P w K mg base n_L_draws "_law_draws" s_L_draws f cdv A outer s H E), H, dr⟩ := rm_of hr
  have gd : Gd ⟨(fcx P w K mg base n_L_draws "_law_draws" s_L_draws f cdv A outer s H E), H, dr⟩ := hgd
  rw [show List.replicate (n_L_draws.length - [("_law_script" : Str)].length) SV.no = [.no, .no, .no] from rfl]
  walk_at "dz"
  refine db_cons ?_
  refine ds_par ?_ (fun ta hta => ps_par rfl nd v1 v2 (by decide) rfl rfl hta rfl)
  refine da_cons (de_int ?_)
  refine da_cons ?_
  walk_at "d"
  refine da_nil ⟨_, _, rfl, ?_⟩
  walk_at "dz"
  walk_at "d"
  refine ds_for (di_lst (DL.de (dl_slScr rfl v0 w0 ?_)))
  walk_at "d"
  refine ⟨fun _ ρ => ∃ (g m : Int) (s3 : SV), ρ = [.scr ns, .dat (.int g), .dat (.int m), s3] ∧ 0 ≤ g ∧ 0 ≤ m ∧ m < 2 ^ 61, ⟨_, _, _, rfl, by decide, by omega, by omega⟩, ?_, ?_⟩
  · rintro i d ρ hd ⟨g, m, s3, rfl, hg, hm0, hm1⟩
    obtain ⟨c, rfl⟩ : ∃ c : Int, d = .int c := by
      have := cut_take (ns.map .int) 60
      rw [show cutD (ns.map .int) none (some 60) = (ns.map .int).take 60 from this] at hd
      obtain ⟨z, hz, rfl⟩ := List.mem_map.mp (List.mem_of_mem_take (List.mem_of_getElem? hd))
      exact ⟨z, rfl⟩
    refine gt_name v3 l3 nd ?_
    walk_at "dz"
    walk_at "d"
    have hm2 : 0 ≤ ((((m * 1000003 + 2 * if c < 0 then -c else c) + if decide (c < 0) = true then 1 else 0) + 17) % 2305843009213693951) := Int.emod_nonneg _ (by decide)
    have hm3 : ((((m * 1000003 + 2 * if c < 0 then -c else c) + if decide (c < 0) = true then 1 else 0) + 17) % 2305843009213693951) < 2305843009213693951 := Int.emod_lt_of_pos _ (by decide)
    refine ⟨fun _ => ?_, fun _ => ?_⟩
    · walk_at "dz"
      walk_at "d"
      refine ⟨_, _, _, rfl, ?_, hm2, by omega⟩
      split <;> omega
    · walk_at "dz"
      walk_at "d"
      exact ⟨_, _, _, rfl, hg, hm2, by omega⟩
  · rintro ρ ⟨g, m, s3, rfl, hg, hm0, hm1⟩
    walk_at "d"
    exact hR g m hg hm0 hm1
end
end K01
namespace K01
open PySem L2 DW PyProof.Rows
local macro_rules | `(tactic| walk_at "dv") => `(tactic| first | exact Or.inl rfl | exact Or.inr (Or.inl rfl) | exact Or.inr (Or.inr rfl))
local macro_rules | `(tactic| walk_at "dl") => `(tactic| first | exact Or.inl rfl | exact Or.inr rfl)
local macro_rules | `(tactic| walk_at "wv") => `(tactic| first | with_reducible assumption | walk_at "dv")
local macro_rules | `(tactic| walk_at "wa") => `(tactic| with_reducible assumption)
local macro_rules | `(tactic| walk_at "rm") => `(tactic| first | with_reducible assumption | (apply Rm.blk; with_reducible assumption))
local macro_rules | `(tactic| walk_at "dn") => `(tactic| first
  | refine nm_dat (by walk_at "wa") (by walk_at "wv") (by rfl) ?_ | refine nm_own (by walk_at "wa") (by walk_at "wv") (by rfl) ?_ | refine nm_drw (by walk_at "wa") (by walk_at "wv") (by rfl) ?_ | refine nm_scr (by walk_at "wa") (by walk_at "wv") (by rfl) ?_
  | refine de_globI (by walk_at "wa") rfl ?_ | refine de_globS (by walk_at "wa") rfl ?_)
local macro_rules | `(tactic| walk_at "dci") => `(tactic| first
  | ((with_reducible show DE _ _ (Expr.Call _ [_, Expr.Name "int" _] _ _) _); refine de_is kInt bt_int (by walk_at "wa") (by walk_at "wa") ?_)
  | ((with_reducible show DE _ _ (Expr.Call _ [_, Expr.Name "bool" _] _ _) _); refine de_is kBool bt_bool (by walk_at "wa") (by walk_at "wa") ?_)
  | ((with_reducible show DE _ _ (Expr.Call _ [_, Expr.Name "str" _] _ _) _); refine de_is kStr bt_str (by walk_at "wa") (by walk_at "wa") ?_)
  | ((with_reducible show DE _ _ (Expr.Call _ [_, Expr.Name "tuple" _] _ _) _); refine de_is kTup bt_tuple (by walk_at "wa") (by walk_at "wa") ?_)
  | ((with_reducible show DE _ _ (Expr.Call _ [_, Expr.Name "list" _] _ _) _); refine de_is kLst bt_list (by walk_at "wa") (by walk_at "wa") ?_)
  | ((with_reducible show DE _ _ (Expr.Call _ [_, Expr.Tuple [Expr.Name "tuple" _, Expr.Name "list" _] _ _] _ _) _); refine de_is2 kTup kLst bt_tuple bt_list (by walk_at "wa") (by walk_at "wa") (by walk_at "wa") ?_)
  | ((with_reducible show DE _ _ (Expr.Call _ [_, Expr.Tuple [Expr.Name "int" _, Expr.Name "tuple" _] _ _] _ _) _); refine de_is2 kInt kTup bt_int bt_tuple (by walk_at "wa") (by walk_at "wa") (by walk_at "wa") ?_))
local macro_rules | `(tactic| walk_at "dc") => `(tactic| first
  | ((with_reducible show DE _ _ (Expr.Call (Expr.Name "isinstance" _) _ _ _) _); walk_at "dci")
  | ((with_reducible show DE _ _ (Expr.Call (Expr.Name "len" _) [Expr.Name _ _] _ _) _); refine len_scr (by walk_at "wa") (by walk_at "wv") (by rfl) (by walk_at "wa") ?_)
  | ((with_reducible show DE _ _ (Expr.Call (Expr.Name "len" _) _ _ _) _); refine de_b1 bb_len (by walk_at "wa") ?_)
  | ((with_reducible show DE _ _ (Expr.Call (Expr.Name "abs" _) _ _ _) _); refine de_b1 bb_abs (by walk_at "wa") ?_)
  | ((with_reducible show DE _ _ (Expr.Call (Expr.Name "repr" _) _ _ _) _); refine de_b1 bb_repr (by walk_at "wa") ?_)
  | ((with_reducible show DE _ _ (Expr.Call (Expr.Name "all" _) _ _ _) _); refine de_b1 bb_all (by walk_at "wa") ?_)
  | ((with_reducible show DE _ _ (Expr.Call (Expr.Name "any" _) _ _ _) _); refine de_b1 bb_any (by walk_at "wa") ?_)
  | ((with_reducible show DE _ _ (Expr.Call (Expr.Name "sum" _) _ _ _) _); refine de_b1 bb_sum (by walk_at "wa") ?_)
  | ((with_reducible show DE _ _ (Expr.Call (Expr.Name "max" _) _ _ _) _); refine de_b1 bb_max (by walk_at "wa") ?_)
  | ((with_reducible show DE _ _ (Expr.Call (Expr.Name "int" _) _ _ _) _); refine de_t1 bt_int (by walk_at "wa") ?_)
  | ((with_reducible show DE _ _ (Expr.Call (Expr.Name "tuple" _) _ _ _) _); refine de_t1 bt_tuple (by walk_at "wa") ?_)
  | ((with_reducible show DE _ _ (Expr.Call (Expr.Name "min" _) _ _ _) _); refine de_b2 bb_min (by walk_at "wa") ?_)
  | ((with_reducible show DE ⟨blkX _ _ _ _ _ _ _, _, _⟩ _ _ _); refine de_fB (by walk_at "wa") ?_)
  | refine de_f (by walk_at "wa") ?_)
local macro_rules | `(tactic| walk_at "de") => `(tactic| first
  | ((with_reducible show DE _ _ (Expr.Name _ _) _); walk_at "dn")
  | ((with_reducible show DE _ _ (Expr.Call (Expr.Name _ _) _ _ _) _); walk_at "dc")
  | ((with_reducible show DE _ _ (Expr.Constant (Const.int _) _ _) _); refine de_int ?_)
  | ((with_reducible show DE _ _ (Expr.Constant (Const.str _) _ _) _); refine de_str ?_)
  | ((with_reducible show DE _ _ (Expr.Constant (Const.bool _) _ _) _); refine de_bl ?_)
  | ((with_reducible show DE _ _ (Expr.Constant Const.none _ _) _); refine de_non ?_)
  | ((with_reducible show DE _ _ (Expr.Compare _ [_] _ _) _); refine de_cmp ?_)
  | ((with_reducible show DE _ _ (Expr.Compare _ [_, _] _ _) _); refine de_chain ?_)
  | ((with_reducible show DE _ _ (Expr.BinOp (Expr.List _ _) Operator.Add _ _) _); refine DL.de (dl_op ?_))
  | ((with_reducible show DE _ _ (Expr.BinOp _ Operator.Add (Expr.List _ _) _) _); refine DL.de (dl_op ?_))
  | ((with_reducible show DE _ _ (Expr.BinOp _ _ _ _) _); refine de_op ?_)
  | ((with_reducible show DE _ _ (Expr.Dict [] [] _) _); refine de_dic0 ?_)
  | ((with_reducible show DE _ _ (Expr.List _ _) _); refine DL.de (dl_list ?_))
  | ((with_reducible show DE _ _ (Expr.Subscript _ (Expr.Slice _ _ (some _) _) _) _); refine de_revT ?_)
  | ((with_reducible show DE _ _ (Expr.Subscript (Expr.Name _ _) (Expr.Slice _ _ none _) _) _); first
    | refine de_slT (nm_dat (d := PyData.tuple _) (by walk_at "wa") (by walk_at "wv") (by rfl) ?_)
    | refine de_slS (nm_dat (d := PyData.str _) (by walk_at "wa") (by walk_at "wv") (by rfl) ?_)
    | refine DL.de (dl_slL (nm_dat (d := PyData.list _) (by walk_at "wa") (by walk_at "wv") (by rfl) ?_)))
  | ((with_reducible show DE _ _ (Expr.Subscript _ (Expr.Slice _ _ none _) _) _); refine de_slT ?_)
  | ((with_reducible show DE _ _ (Expr.Subscript (Expr.Name _ _) (Expr.Constant (Const.int _) _ _) _) _); refine de_drwIx (by walk_at "wa") (by walk_at "wv") (by rfl) (by decide) ?_)
  | ((with_reducible show DE _ _ (Expr.Subscript _ _ _) _); refine de_ix ?_)
  | ((with_reducible show DE _ _ (Expr.Tuple _ _ _) _); refine de_tuple ?_)
  | ((with_reducible show DE _ _ (Expr.BoolOp _ [_] _) _); refine de_one ?_)
  | ((with_reducible show DE _ _ (Expr.BoolOp BoolOp.And _ _) _); refine de_and ?_)
  | ((with_reducible show DE _ _ (Expr.BoolOp BoolOp.Or _ _) _); refine de_or ?_)
  | ((with_reducible show DE _ _ (Expr.UnaryOp UnaryOp.Not _ _) _); refine de_not ?_)
  | ((with_reducible show DE _ _ (Expr.UnaryOp UnaryOp.USub _ _) _); refine de_neg ?_)
  | ((with_reducible show DE _ _ (Expr.IfExp _ _ _ _) _); refine de_if ?_))
local macro_rules | `(tactic| walk_at "dop") => `(tactic| first
  | ((with_reducible show DOp _ (binaryOp Operator.Add) (PyData.int _) (PyData.int _) _); refine do_add ?_)
  | ((with_reducible show DOp _ (binaryOp Operator.Sub) (PyData.int _) (PyData.int _) _); refine do_sub ?_)
  | ((with_reducible show DOp _ (binaryOp Operator.Mult) (PyData.int _) (PyData.int _) _); first | refine do_mul ?_ (by first | exact Or.inl ⟨by decide, by decide⟩ | exact Or.inr ⟨by decide, by decide⟩) | refine do_mul ?_ ?_)
  | ((with_reducible show DOp _ (binaryOp Operator.FloorDiv) (PyData.int _) (PyData.int _) _); first | refine do_fdiv ?_ ⟨by first | decide | with_reducible assumption | omega, by first | decide | with_reducible assumption | omega⟩ | refine do_fdiv ?_ ?_)
  | ((with_reducible show DOp _ (binaryOp Operator.Mod) (PyData.int _) (PyData.int _) _); first | refine do_mod ?_ (by first | decide | with_reducible assumption | omega) | refine do_mod ?_ ?_)
  | ((with_reducible show DOp _ (binaryOp Operator.Pow) (PyData.int _) (PyData.int _) _); first | refine do_pow ?_ ⟨by decide, by decide, by decide⟩ | refine do_pow ?_ ?_)
  | ((with_reducible show DOp _ (compareOp CmpOp.Lt) (PyData.int _) (PyData.int _) _); refine do_lt ?_)
  | ((with_reducible show DOp _ (compareOp CmpOp.LtE) (PyData.int _) (PyData.int _) _); refine do_le ?_)
  | ((with_reducible show DOp _ (compareOp CmpOp.Gt) (PyData.int _) (PyData.int _) _); refine do_gt ?_)
  | ((with_reducible show DOp _ (compareOp CmpOp.GtE) (PyData.int _) (PyData.int _) _); refine do_ge ?_)
  | ((with_reducible show DOp _ (compareOp CmpOp.Eq) (PyData.int _) (PyData.int _) _); refine do_eqI ?_)
  | ((with_reducible show DOp _ (compareOp CmpOp.NotEq) (PyData.int _) (PyData.int _) _); refine do_neI ?_)
  | ((with_reducible show DOp _ (compareOp CmpOp.Eq) (PyData.str _) (PyData.str _) _); refine do_eqS ?_)
  | ((with_reducible show DOp _ (compareOp CmpOp.NotEq) (PyData.str _) (PyData.str _) _); refine do_neS ?_)
  | ((with_reducible show DOp _ (compareOp CmpOp.Eq) (PyData.bool _) (PyData.bool _) _); refine do_eqB ?_)
  | ((with_reducible show DOp _ (compareOp CmpOp.NotEq) (PyData.bool _) (PyData.bool _) _); refine do_neB ?_)
  | ((with_reducible show DOp _ (compareOp CmpOp.NotEq) (PyData.list _) (PyData.list []) _); refine do_neL0 (by walk_at "rm") ?_)
  | ((with_reducible show DOp _ (compareOp CmpOp.Eq) (PyData.list _) (PyData.list []) _); refine do_eqL0 (by walk_at "rm") ?_)
  | ((with_reducible show DOp _ (compareOp CmpOp.Eq) (PyData.tuple _) (PyData.tuple []) _); refine do_eqT0 (by walk_at "rm") ?_)
  | ((with_reducible show DOp _ (compareOp CmpOp.Is) _ PyData.none _); refine do_isN ?_)
  | ((with_reducible show DOp _ (compareOp CmpOp.IsNot) _ PyData.none _); refine do_notN ?_)
  | ((with_reducible show DOp _ (compareOp CmpOp.In) (PyData.str ⟨#[_]⟩) (PyData.str _) _); refine do_inS ?_)
  | ((with_reducible show DOp _ (compareOp CmpOp.NotIn) (PyData.str ⟨#[_]⟩) (PyData.str _) _); refine do_ninS ?_))
local macro_rules | `(tactic| walk_at "dca") => `(tactic| first
  | ((with_reducible show DCall _ (Value.builtin "len") [PyData.tuple _] _); refine dc_len (n := List.length _) ?_ rfl)
  | ((with_reducible show DCall _ (Value.builtin "len") [PyData.list _] _); refine dc_len (n := List.length _) ?_ rfl)
  | ((with_reducible show DCall _ (Value.builtin "len") [PyData.str _] _); refine dc_len ?_ ⟨rfl, ?_⟩)
  | ((with_reducible show DCall _ (Value.builtin "abs") _ _); refine dc_abs ?_)
  | ((with_reducible show DCall _ (Value.builtin "min") _ _); refine dc_min2 rfl ?_)
  | ((with_reducible show DCall _ (Value.type "int") [PyData.bool _] _); refine dc_intB ?_)
  | ((with_reducible show DCall _ (Value.type "tuple") [PyData.list _] _); refine dc_tupL ?_)
  | ((with_reducible show DCall _ (Value.type "tuple") [PyData.tuple _] _); refine dc_tupT ?_))
local macro_rules | `(tactic| walk_at "dix") => `(tactic| first
  | ((with_reducible show DIx _ _ (PyData.int 0) _); first | refine dix_t0 ?_ | refine dix_l0 ?_)
  | ((with_reducible show DIx _ _ (PyData.int 1) _); first | refine dix_t1 ?_ | refine dix_l1 ?_)
  | ((with_reducible show DIx _ _ (PyData.int 2) _); first | refine dix_t2 ?_ | refine dix_l2 ?_))
local macro_rules | `(tactic| walk_at "dt") => `(tactic| first
  | ((with_reducible show DT _ _ (Expr.BoolOp BoolOp.And _ _) _); refine DW.DW.dt (dw_and ?_))
  | ((with_reducible show DT _ _ (Expr.BoolOp BoolOp.Or _ _) _); refine DW.DW.dt (dw_or ?_))
  | ((with_reducible show DT _ _ (Expr.Compare _ [_] _ _) _); refine dt_cmp ?_)
  | ((with_reducible show DT _ _ (Expr.Compare _ [_, _] _ _) _); refine dt_chain ?_)
  | ((with_reducible show DT _ _ (Expr.UnaryOp UnaryOp.Not _ _) _); refine dt_not ?_)
  | refine dt_val ?_)
local macro_rules | `(tactic| walk_at "d1") => `(tactic| first
  | ((with_reducible show DE _ _ _ _); walk_at "de")
  | ((with_reducible show DT _ _ _ _); walk_at "dt")
  | ((with_reducible show DOp _ _ _ _ _); walk_at "dop")
  | ((with_reducible show DOpL _ (binaryOp Operator.Add) (PyData.list _) (PyData.list _) _); refine dol_cat ?_ ?_)
  | ((with_reducible show DCall _ _ _ _); walk_at "dca")
  | ((with_reducible show DIx _ _ _ _); walk_at "dix")
  | ((with_reducible show DW.DW _ _ (Expr.BoolOp BoolOp.And [_] _) _); refine dw_and1 ?_)
  | ((with_reducible show DW.DW _ _ (Expr.BoolOp BoolOp.Or [_] _) _); refine dw_or1 ?_)
  | ((with_reducible show DW.DW _ _ (Expr.BoolOp BoolOp.And _ _) _); refine dw_and ?_)
  | ((with_reducible show DW.DW _ _ (Expr.BoolOp BoolOp.Or _ _) _); refine dw_or ?_)
  | ((with_reducible show DAd _ _ [] _); refine dad_nil ?_)
  | ((with_reducible show DAd _ _ _ _); refine dad_cons ?_)
  | ((with_reducible show DAv _ _ [] _); refine dav_nil ?_)
  | ((with_reducible show DAv _ _ _ _); refine dav_cons ?_)
  | ((with_reducible show DO _ _ none _); refine do_none ?_)
  | ((with_reducible show DO _ _ _ _); refine do_some ?_)
  | ((with_reducible show ∃ dx dy, DatOf _ (EV.dat _) dx ∧ DatOf _ (EV.dat _) dy ∧ _); refine ⟨_, _, .dat, .dat, ?_⟩)
  | ((with_reducible show ∃ dx dy, DatOf _ (EV.dat _) dx ∧ (EV.dat _) = EV.dat dy ∧ _); refine ⟨_, _, .dat, rfl, ?_⟩)
  | ((with_reducible show ∃ dx dy, DatOf _ _ dx ∧ DatOf _ _ dy ∧ _); first | refine ⟨_, _, .own rfl, .dat, ?_⟩ | refine ⟨_, _, .dat, .own rfl, ?_⟩ | refine ⟨_, _, .own rfl, .own rfl, ?_⟩)
  | ((with_reducible show ∃ dx, DatOf _ (EV.dat _) dx ∧ _); refine ⟨_, .dat, ?_⟩)
  | ((with_reducible show ∃ dx, DatOf _ _ dx ∧ _); refine ⟨_, .own rfl, ?_⟩)
  | ((with_reducible show ∃ d, _ = _ ∧ _); refine ⟨_, rfl, ?_⟩)
  | ((with_reducible show ∃ av : AV, _ ∧ _); first | refine ⟨_, Or.inl ⟨rfl, rfl⟩, ?_⟩ | refine ⟨_, Or.inr ⟨_, rfl, rfl⟩, ?_⟩))
local macro_rules | `(tactic| walk_at "db") => `(tactic| first
  | refine ⟨fun _ => ?_, fun h => Bool.noConfusion h⟩ | refine ⟨fun h => Bool.noConfusion h, fun _ => ?_⟩)
local macro_rules | `(tactic| walk_at "dst") => `(tactic| first
  | ((with_reducible show DS _ _ (Stmt.If _ _ _ _) _ _ _ _); refine ds_if ?_)
  | ((with_reducible show DS _ _ (Stmt.Expr _ _) _ _ _ _); refine ds_expr ?_)
  | ((with_reducible show DS _ _ (Stmt.Pass _) _ _ _ _); refine ds_pass ?_)
  | ((with_reducible show DS _ _ (Stmt.Assign [Expr.Subscript (Expr.Name _ _) (Expr.Constant (Const.int _) _ _) _] _ _) _ _ _ _); refine ds_drwSet (by walk_at "wa") (by walk_at "wv") ?_)
  | ((with_reducible show DS _ _ (Stmt.Return (some (Expr.ListComp _ _ _ _)) _) _ _ _ _); refine ds_retL ?_)
  | ((with_reducible show DS _ _ (Stmt.Return (some (Expr.List _ _)) _) _ _ _ _); refine ds_retL (dl_list ?_))
  | ((with_reducible show DS _ _ (Stmt.Return (some (Expr.Name _ _)) _) _ _ _ _); first
    | refine ds_ret (nm_dat (by walk_at "wa") (by walk_at "wv") (by rfl) ?_)
    | refine ds_retO (nm_own (by walk_at "wa") (by walk_at "wv") (by rfl) ⟨_, _, rfl, rfl, ?_⟩)
    | refine ds_ret ?_)
  | ((with_reducible show DS _ _ (Stmt.Return (some _) _) _ _ _ _); refine ds_ret ?_)
  | ((with_reducible show DS _ _ (Stmt.Assign [Expr.Name _ _] _ _) _ _ _ _); (fail_if_success (with_reducible show DS _ _ (Stmt.Assign [Expr.Name _ _] (Expr.ListComp _ _ _ _) _) _ _ _ _)); (fail_if_success (with_reducible show DS _ _ (Stmt.Assign [Expr.Name _ _] (Expr.List _ _) _) _ _ _ _)); refine st_set (by walk_at "wa") (by walk_at "wa") (by walk_at "wa") ?_))
local macro_rules | `(tactic| walk_at "e") => `(tactic| repeat (first | walk_at "d1" | walk_at "db"))
local macro_rules | `(tactic| walk_at "d") => `(tactic| repeat (first | walk_at "d1" | walk_at "db" | ((with_reducible show DS _ _ _ _ _ _ _); walk_at "dst") | ((with_reducible show DB _ _ [] _ _ _ _); refine db_nil ?_) | ((with_reducible show DB _ _ _ _ _ _ _); refine db_cons ?_)))
local macro_rules | `(tactic| walk_at "ds") => `(tactic| refine st_set (by walk_at "wa") (by walk_at "wa") (by walk_at "wa") ?_)
local macro_rules | `(tactic| walk_at "dsl") => `(tactic| refine st_setL (by walk_at "wa") (by walk_at "wa") (by walk_at "wa") ?_)
local macro_rules | `(tactic| walk_at "dz") => `(tactic| dsimp (config := { proj := false }) only [List.set, List.map, List.replicate, List.cons_append, List.nil_append, AV.sv])
section
variable {P : Program} {w : World} {K : PySem.W.Frag} {mg : Str → Option Value} {base : Heap}
/-! ### _law_same of two like data -/
mutual
def plain : Nat → PyData → Bool
  | _, .none => true
  | _, .bool _ => true
  | _, .int _ => true
  | _, .str x => decide (x.length ≤ sizeLine)
  | 0, _ => false
  | n + 1, .list ds => decide (ds.length < sizeLine) && plains n ds
  | n + 1, .tuple ds => decide (ds.length < sizeLine) && plains n ds
  | _ + 1, .dict _ => false
def plains : Nat → List PyData → Bool
  | _, [] => true
  | n, d :: ds => plain n d && plains n ds
end
theorem plains_get {n : Nat} : ∀ {ds : List PyData} {i : Nat} {d : PyData}, plains n ds = true → ds[i]? = some d → plain n d = true
  | [], i, d, _, e => by simp at e
  | x :: ds, 0, d, h, e => by
    rw [plains, Bool.and_eq_true] at h
    simp at e
    exact e ▸ h.1
  | x :: ds, i + 1, d, h, e => by
    rw [plains, Bool.and_eq_true] at h
    exact plains_get h.2 (by simpa using e)
def fs_L_same : Nat → FS
  | 0 => fun _ _ => False
  | n + 1 => fun avs R => ∃ d, avs = [.dat d, .dat d] ∧ plain n d = true ∧ R (.dat (.bool true))
theorem none_L_same {avs : List AV} {R : RV → Prop} (h : fs_L_same 0 avs R) : False := h
theorem bxor_same (b : Bool) : (!decide (b = b)) = false := by rw [decide_eq_true rfl]; rfl
theorem ok_L_same {b : Nat} (T : Tp K mg) (n : Nat) : Fn P w K mg base (b + n) "_law_same" (fs_L_same n) := by
  induction n with
  | zero => exact T.d_L_same.none (fun avs R h => none_L_same h)
  | succ n F_L_same =>
  refine T.d_L_same.ok sc_L_same (fun avs R h => ?_) (fun f cdv A outer s H E dr avs R hr hgd h => ?_)
  · obtain ⟨d, rfl, _⟩ := h
    rfl
  obtain ⟨d, rfl, hp, hR⟩ := h
  have T' : Tp (fcx P w K mg base n_L_same "_law_same" s_L_same f cdv A outer s H E).K (fcx P w K mg base n_L_same "_law_same" s_L_same f cdv A outer s H E).mg := T
  have v0 : (fcx P w K mg base n_L_same "_law_same" s_L_same f cdv A outer s H E).N[0]? = some ("_law_found" : Str) := rfl
  have w0 : Vis (fcx P w K mg base n_L_same "_law_same" s_L_same f cdv A outer s H E).env.scope "_law_found" := by walk_at "dv"
  have l0 : Loc (fcx P w K mg base n_L_same "_law_same" s_L_same f cdv A outer s H E).env.scope "_law_found" := by walk_at "dl"
  have v1 : (fcx P w K mg base n_L_same "_law_same" s_L_same f cdv A outer s H E).N[1]? = some ("_law_due" : Str) := rfl
  have w1 : Vis (fcx P w K mg base n_L_same "_law_same" s_L_same f cdv A outer s H E).env.scope "_law_due" := by walk_at "dv"
  have l1 : Loc (fcx P w K mg base n_L_same "_law_same" s_L_same f cdv A outer s H E).env.scope "_law_due" := by walk_at "dl"
  have v2 : (fcx P w K mg base n_L_same "_law_same" s_L_same f cdv A outer s H E).N[2]? = some ("_law_k" : Str) := rfl
  have nd : (fcx P w K mg base n_L_same "_law_same" s_L_same f cdv A outer s H E).N.Nodup := sc_L_same.nd
  have c_L_same := Fn.cal (X := (fcx P w K mg base n_L_same "_law_same" s_L_same f cdv A outer s H E)) F_L_same hr hgd
  have b_bool := T'.b_bool
  have b_int := T'.b_int
  have b_isinstance := T'.b_isinstance
  have b_len := T'.b_len
  have b_list := T'.b_list
  have b_range := T'.b_range
  have b_str := T'.b_str
  have b_tuple := T'.b_tuple
  have rm : Rm ⟨(fcx P w K mg base n_L_same "_law_same" s_L_same f cdv A outer s H E), H, dr⟩ := rm_of hr
  have gd : Gd ⟨(fcx P w K mg base n_L_same "_law_same" s_L_same f cdv A outer s H E), H, dr⟩ := hgd
  rw [show List.replicate (n_L_same.length - [("_law_found" : Str), ("_law_due" : Str)].length) SV.no = [.no] from rfl]
  walk_at "dz"
  cases d with
  | none =>
    walk_at "d"
    exact hR
  | bool b =>
    walk_at "d"
    rw [decide_eq_true rfl]
    exact hR
  | int b =>
    walk_at "d"
    rw [decide_eq_true rfl]
    exact hR
  | str b =>
    walk_at "d"
    rw [decide_eq_true rfl]
    exact hR
  | dict b => 
    cases n <;> exact nomatch hp
  | list ds => 
    cases n with
    | zero => exact nomatch hp
    | succ n =>
    rw [plain, Bool.and_eq_true] at hp
    obtain ⟨hl, hp⟩ := hp
    have hl := dTr hl
    have hl2 : sizeLine < 2 ^ 62 := by decide
    walk_at "d"
    refine ⟨fun h => absurd rfl (nTd h), fun _ => ?_⟩
    walk_at "d"
    refine DL.de (lc_filterA v2 nd rfl (fun _ : Nat => false) (fun i => .int i) (fun i => .int i) (di_range1 b_range rfl ?_))
    walk_at "d"
    refine ⟨by omega, by omega, List.range ds.length, ?_, rfl, ?_, fun z hz s1 H1 C1 cl fp Hx => ?_, fun z hz h => (nomatch h), ?_⟩
    · unfold DW.upTo
      rw [Int.toNat_natCast]
      refine List.map_congr_left fun a _ => ?_
      rw [Int.zero_add]
    · rw [upTo_len, Int.toNat_natCast]; exact hl
    · have hz := List.mem_range.mp hz
      walk_at "d"
      refine dix_lst (atI_nat (List.getElem?_eq_getElem hz)) ?_
      walk_at "d"
      refine dix_lst (atI_nat (List.getElem?_eq_getElem hz)) ?_
      walk_at "d"
      refine ⟨_, rfl, plains_get hp (List.getElem?_eq_getElem hz), _, rfl, rfl, rfl⟩
    rw [show (List.range ds.length).filter (fun _ : Nat => false) = [] from List.filter_eq_nil_iff.mpr (fun _ _ h => nomatch h), List.map_nil]
    walk_at "d"
    exact hR
  | tuple ds => 
    cases n with
    | zero => exact nomatch hp
    | succ n =>
    rw [plain, Bool.and_eq_true] at hp
    obtain ⟨hl, hp⟩ := hp
    have hl := dTr hl
    have hl2 : sizeLine < 2 ^ 62 := by decide
    walk_at "d"
    refine ⟨fun h => absurd rfl (nTd h), fun _ => ?_⟩
    walk_at "d"
    refine DL.de (lc_filterA v2 nd rfl (fun _ : Nat => false) (fun i => .int i) (fun i => .int i) (di_range1 b_range rfl ?_))
    walk_at "d"
    refine ⟨by omega, by omega, List.range ds.length, ?_, rfl, ?_, fun z hz s1 H1 C1 cl fp Hx => ?_, fun z hz h => (nomatch h), ?_⟩
    · unfold DW.upTo
      rw [Int.toNat_natCast]
      refine List.map_congr_left fun a _ => ?_
      rw [Int.zero_add]
    · rw [upTo_len, Int.toNat_natCast]; exact hl
    · have hz := List.mem_range.mp hz
      walk_at "d"
      refine dix_tup (atI_nat (List.getElem?_eq_getElem hz)) ?_
      walk_at "d"
      refine dix_tup (atI_nat (List.getElem?_eq_getElem hz)) ?_
      walk_at "d"
      refine ⟨_, rfl, plains_get hp (List.getElem?_eq_getElem hz), _, rfl, rfl, rfl⟩
    rw [show (List.range ds.length).filter (fun _ : Nat => false) = [] from List.filter_eq_nil_iff.mpr (fun _ _ h => nomatch h), List.map_nil]
    walk_at "d"
    exact hR
end
end K01
namespace K01
open PySem L2 DW PyProof.Rows
local macro_rules | `(tactic| walk_at "dv") => `(tactic| first | exact Or.inl rfl | exact Or.inr (Or.inl rfl) | exact Or.inr (Or.inr rfl))
local macro_rules | `(tactic| walk_at "dl") => `(tactic| first | exact Or.inl rfl | exact Or.inr rfl)
local macro_rules | `(tactic| walk_at "wv") => `(tactic| first | with_reducible assumption | walk_at "dv")
local macro_rules | `(tactic| walk_at "wa") => `(tactic| with_reducible assumption)
local macro_rules | `(tactic| walk_at "rm") => `(tactic| first | with_reducible assumption | (apply Rm.blk; with_reducible assumption))
local macro_rules | `(tactic| walk_at "dn") => `(tactic| first
  | refine nm_dat (by walk_at "wa") (by walk_at "wv") (by rfl) ?_ | refine nm_own (by walk_at "wa") (by walk_at "wv") (by rfl) ?_ | refine nm_drw (by walk_at "wa") (by walk_at "wv") (by rfl) ?_ | refine nm_scr (by walk_at "wa") (by walk_at "wv") (by rfl) ?_
  | refine de_globI (by walk_at "wa") rfl ?_ | refine de_globS (by walk_at "wa") rfl ?_)
local macro_rules | `(tactic| walk_at "dci") => `(tactic| first
  | ((with_reducible show DE _ _ (Expr.Call _ [_, Expr.Name "int" _] _ _) _); refine de_is kInt bt_int (by walk_at "wa") (by walk_at "wa") ?_)
  | ((with_reducible show DE _ _ (Expr.Call _ [_, Expr.Name "bool" _] _ _) _); refine de_is kBool bt_bool (by walk_at "wa") (by walk_at "wa") ?_)
  | ((with_reducible show DE _ _ (Expr.Call _ [_, Expr.Name "str" _] _ _) _); refine de_is kStr bt_str (by walk_at "wa") (by walk_at "wa") ?_)
  | ((with_reducible show DE _ _ (Expr.Call _ [_, Expr.Name "tuple" _] _ _) _); refine de_is kTup bt_tuple (by walk_at "wa") (by walk_at "wa") ?_)
  | ((with_reducible show DE _ _ (Expr.Call _ [_, Expr.Name "list" _] _ _) _); refine de_is kLst bt_list (by walk_at "wa") (by walk_at "wa") ?_)
  | ((with_reducible show DE _ _ (Expr.Call _ [_, Expr.Tuple [Expr.Name "tuple" _, Expr.Name "list" _] _ _] _ _) _); refine de_is2 kTup kLst bt_tuple bt_list (by walk_at "wa") (by walk_at "wa") (by walk_at "wa") ?_)
  | ((with_reducible show DE _ _ (Expr.Call _ [_, Expr.Tuple [Expr.Name "int" _, Expr.Name "tuple" _] _ _] _ _) _); refine de_is2 kInt kTup bt_int bt_tuple (by walk_at "wa") (by walk_at "wa") (by walk_at "wa") ?_))
local macro_rules | `(tactic| walk_at "dc") => `(tactic| first
  | ((with_reducible show DE _ _ (Expr.Call (Expr.Name "isinstance" _) _ _ _) _); walk_at "dci")
  | ((with_reducible show DE _ _ (Expr.Call (Expr.Name "len" _) [Expr.Name _ _] _ _) _); refine len_scr (by walk_at "wa") (by walk_at "wv") (by rfl) (by walk_at "wa") ?_)
  | ((with_reducible show DE _ _ (Expr.Call (Expr.Name "len" _) _ _ _) _); refine de_b1 bb_len (by walk_at "wa") ?_)
  | ((with_reducible show DE _ _ (Expr.Call (Expr.Name "abs" _) _ _ _) _); refine de_b1 bb_abs (by walk_at "wa") ?_)
  | ((with_reducible show DE _ _ (Expr.Call (Expr.Name "repr" _) _ _ _) _); refine de_b1 bb_repr (by walk_at "wa") ?_)
  | ((with_reducible show DE _ _ (Expr.Call (Expr.Name "all" _) _ _ _) _); refine de_b1 bb_all (by walk_at "wa") ?_)
  | ((with_reducible show DE _ _ (Expr.Call (Expr.Name "any" _) _ _ _) _); refine de_b1 bb_any (by walk_at "wa") ?_)
  | ((with_reducible show DE _ _ (Expr.Call (Expr.Name "sum" _) _ _ _) _); refine de_b1 bb_sum (by walk_at "wa") ?_)
  | ((with_reducible show DE _ _ (Expr.Call (Expr.Name "max" _) _ _ _) _); refine de_b1 bb_max (by walk_at "wa") ?_)
  | ((with_reducible show DE _ _ (Expr.Call (Expr.Name "int" _) _ _ _) _); refine de_t1 bt_int (by walk_at "wa") ?_)
  | ((with_reducible show DE _ _ (Expr.Call (Expr.Name "tuple" _) _ _ _) _); refine de_t1 bt_tuple (by walk_at "wa") ?_)
  | ((with_reducible show DE _ _ (Expr.Call (Expr.Name "min" _) _ _ _) _); refine de_b2 bb_min (by walk_at "wa") ?_)
  | ((with_reducible show DE ⟨blkX _ _ _ _ _ _ _, _, _⟩ _ _ _); refine de_fB (by walk_at "wa") ?_)
  | refine de_f (by walk_at "wa") ?_)
local macro_rules | `(tactic| walk_at "de") => `(tactic| first
  | ((with_reducible show DE _ _ (Expr.Name _ _) _); walk_at "dn")
  | ((with_reducible show DE _ _ (Expr.Call (Expr.Name _ _) _ _ _) _); walk_at "dc")
  | ((with_reducible show DE _ _ (Expr.Constant (Const.int _) _ _) _); refine de_int ?_)
  | ((with_reducible show DE _ _ (Expr.Constant (Const.str _) _ _) _); refine de_str ?_)
  | ((with_reducible show DE _ _ (Expr.Constant (Const.bool _) _ _) _); refine de_bl ?_)
  | ((with_reducible show DE _ _ (Expr.Constant Const.none _ _) _); refine de_non ?_)
  | ((with_reducible show DE _ _ (Expr.Compare _ [_] _ _) _); refine de_cmp ?_)
  | ((with_reducible show DE _ _ (Expr.Compare _ [_, _] _ _) _); refine de_chain ?_)
  | ((with_reducible show DE _ _ (Expr.BinOp (Expr.List _ _) Operator.Add _ _) _); refine DL.de (dl_op ?_))
  | ((with_reducible show DE _ _ (Expr.BinOp _ Operator.Add (Expr.List _ _) _) _); refine DL.de (dl_op ?_))
  | ((with_reducible show DE _ _ (Expr.BinOp _ _ _ _) _); refine de_op ?_)
  | ((with_reducible show DE _ _ (Expr.Dict [] [] _) _); refine de_dic0 ?_)
  | ((with_reducible show DE _ _ (Expr.List _ _) _); refine DL.de (dl_list ?_))
  | ((with_reducible show DE _ _ (Expr.Subscript _ (Expr.Slice _ _ (some _) _) _) _); refine de_revT ?_)
  | ((with_reducible show DE _ _ (Expr.Subscript (Expr.Name _ _) (Expr.Slice _ _ none _) _) _); first
    | refine de_slT (nm_dat (d := PyData.tuple _) (by walk_at "wa") (by walk_at "wv") (by rfl) ?_)
    | refine de_slS (nm_dat (d := PyData.str _) (by walk_at "wa") (by walk_at "wv") (by rfl) ?_)
    | refine DL.de (dl_slL (nm_dat (d := PyData.list _) (by walk_at "wa") (by walk_at "wv") (by rfl) ?_)))
  | ((with_reducible show DE _ _ (Expr.Subscript _ (Expr.Slice _ _ none _) _) _); refine de_slT ?_)
  | ((with_reducible show DE _ _ (Expr.Subscript (Expr.Name _ _) (Expr.Constant (Const.int _) _ _) _) _); refine de_drwIx (by walk_at "wa") (by walk_at "wv") (by rfl) (by decide) ?_)
  | ((with_reducible show DE _ _ (Expr.Subscript _ _ _) _); refine de_ix ?_)
  | ((with_reducible show DE _ _ (Expr.Tuple _ _ _) _); refine de_tuple ?_)
  | ((with_reducible show DE _ _ (Expr.BoolOp _ [_] _) _); refine de_one ?_)
  | ((with_reducible show DE _ _ (Expr.BoolOp BoolOp.And _ _) _); refine de_and ?_)
  | ((with_reducible show DE _ _ (Expr.BoolOp BoolOp.Or _ _) _); refine de_or ?_)
  | ((with_reducible show DE _ _ (Expr.UnaryOp UnaryOp.Not _ _) _); refine de_not ?_)
  | ((with_reducible show DE _ _ (Expr.UnaryOp UnaryOp.USub _ _) _); refine de_neg ?_)
  | ((with_reducible show DE _ _ (Expr.IfExp _ _ _ _) _); refine de_if ?_))
local macro_rules | `(tactic| walk_at "dop") => `(tactic| first
  | ((with_reducible show DOp _ (binaryOp Operator.Add) (PyData.int _) (PyData.int _) _); refine do_add ?_)
  | ((with_reducible show DOp _ (binaryOp Operator.Sub) (PyData.int _) (PyData.int _) _); refine do_sub ?_)
  | ((with_reducible show DOp _ (binaryOp Operator.Mult) (PyData.int _) (PyData.int _) _); first | refine do_mul ?_ (by first | exact Or.inl ⟨by decide, by decide⟩ | exact Or.inr ⟨by decide, by decide⟩) | refine do_mul ?_ ?_)
  | ((with_reducible show DOp _ (binaryOp Operator.FloorDiv) (PyData.int _) (PyData.int _) _); first | refine do_fdiv ?_ ⟨by first | decide | with_reducible assumption | omega, by first | decide | with_reducible assumption | omega⟩ | refine do_fdiv ?_ ?_)
  | ((with_reducible show DOp _ (binaryOp Operator.Mod) (PyData.int _) (PyData.int _) _); first | refine do_mod ?_ (by first | decide | with_reducible assumption | omega) | refine do_mod ?_ ?_)
  | ((with_reducible show DOp _ (binaryOp Operator.Pow) (PyData.int _) (PyData.int _) _); first | refine do_pow ?_ ⟨by decide, by decide, by decide⟩ | refine do_pow ?_ ?_)
  | ((with_reducible show DOp _ (compareOp CmpOp.Lt) (PyData.int _) (PyData.int _) _); refine do_lt ?_)
  | ((with_reducible show DOp _ (compareOp CmpOp.LtE) (PyData.int _) (PyData.int _) _); refine do_le ?_)
  | ((with_reducible show DOp _ (compareOp CmpOp.Gt) (PyData.int _) (PyData.int _) _); refine do_gt ?_)
  | ((with_reducible show DOp _ (compareOp CmpOp.GtE) (PyData.int _) (PyData.int _) _); refine do_ge ?_)
  | ((with_reducible show DOp _ (compareOp CmpOp.Eq) (PyData.int _) (PyData.int _) _); refine do_eqI ?_)
  | ((with_reducible show DOp _ (compareOp CmpOp.NotEq) (PyData.int _) (PyData.int _) _); refine do_neI ?_)
  | ((with_reducible show DOp _ (compareOp CmpOp.Eq) (PyData.str _) (PyData.str _) _); refine do_eqS ?_)
  | ((with_reducible show DOp _ (compareOp CmpOp.NotEq) (PyData.str _) (PyData.str _) _); refine do_neS ?_)
  | ((with_reducible show DOp _ (compareOp CmpOp.Eq) (PyData.bool _) (PyData.bool _) _); refine do_eqB ?_)
  | ((with_reducible show DOp _ (compareOp CmpOp.NotEq) (PyData.bool _) (PyData.bool _) _); refine do_neB ?_)
  | ((with_reducible show DOp _ (compareOp CmpOp.NotEq) (PyData.list _) (PyData.list []) _); refine do_neL0 (by walk_at "rm") ?_)
  | ((with_reducible show DOp _ (compareOp CmpOp.Eq) (PyData.list _) (PyData.list []) _); refine do_eqL0 (by walk_at "rm") ?_)
  | ((with_reducible show DOp _ (compareOp CmpOp.Eq) (PyData.tuple _) (PyData.tuple []) _); refine do_eqT0 (by walk_at "rm") ?_)
  | ((with_reducible show DOp _ (compareOp CmpOp.Is) _ PyData.none _); refine do_isN ?_)
  | ((with_reducible show DOp _ (compareOp CmpOp.IsNot) _ PyData.none _); refine do_notN ?_)
  | ((with_reducible show DOp _ (compareOp CmpOp.In) (PyData.str ⟨#[_]⟩) (PyData.str _) _); refine do_inS ?_)
  | ((with_reducible show DOp _ (compareOp CmpOp.NotIn) (PyData.str ⟨#[_]⟩) (PyData.str _) _); refine do_ninS ?_))
local macro_rules | `(tactic| walk_at "dca") => `(tactic| first
  | ((with_reducible show DCall _ (Value.builtin "len") [PyData.tuple _] _); refine dc_len (n := List.length _) ?_ rfl)
  | ((with_reducible show DCall _ (Value.builtin "len") [PyData.list _] _); refine dc_len (n := List.length _) ?_ rfl)
  | ((with_reducible show DCall _ (Value.builtin "len") [PyData.str _] _); refine dc_len ?_ ⟨rfl, ?_⟩)
  | ((with_reducible show DCall _ (Value.builtin "abs") _ _); refine dc_abs ?_)
  | ((with_reducible show DCall _ (Value.builtin "min") _ _); refine dc_min2 rfl ?_)
  | ((with_reducible show DCall _ (Value.type "int") [PyData.bool _] _); refine dc_intB ?_)
  | ((with_reducible show DCall _ (Value.type "tuple") [PyData.list _] _); refine dc_tupL ?_)
  | ((with_reducible show DCall _ (Value.type "tuple") [PyData.tuple _] _); refine dc_tupT ?_))
local macro_rules | `(tactic| walk_at "dix") => `(tactic| first
  | ((with_reducible show DIx _ _ (PyData.int 0) _); first | refine dix_t0 ?_ | refine dix_l0 ?_)
  | ((with_reducible show DIx _ _ (PyData.int 1) _); first | refine dix_t1 ?_ | refine dix_l1 ?_)
  | ((with_reducible show DIx _ _ (PyData.int 2) _); first | refine dix_t2 ?_ | refine dix_l2 ?_))
local macro_rules | `(tactic| walk_at "dt") => `(tactic| first
  | ((with_reducible show DT _ _ (Expr.BoolOp BoolOp.And _ _) _); refine DW.DW.dt (dw_and ?_))
  | ((with_reducible show DT _ _ (Expr.BoolOp BoolOp.Or _ _) _); refine DW.DW.dt (dw_or ?_))
  | ((with_reducible show DT _ _ (Expr.Compare _ [_] _ _) _); refine dt_cmp ?_)
  | ((with_reducible show DT _ _ (Expr.Compare _ [_, _] _ _) _); refine dt_chain ?_)
  | ((with_reducible show DT _ _ (Expr.UnaryOp UnaryOp.Not _ _) _); refine dt_not ?_)
  | refine dt_val ?_)
local macro_rules | `(tactic| walk_at "d1") => `(tactic| first
  | ((with_reducible show DE _ _ _ _); walk_at "de")
  | ((with_reducible show DT _ _ _ _); walk_at "dt")
  | ((with_reducible show DOp _ _ _ _ _); walk_at "dop")
  | ((with_reducible show DOpL _ (binaryOp Operator.Add) (PyData.list _) (PyData.list _) _); refine dol_cat ?_ ?_)
  | ((with_reducible show DCall _ _ _ _); walk_at "dca")
  | ((with_reducible show DIx _ _ _ _); walk_at "dix")
  | ((with_reducible show DW.DW _ _ (Expr.BoolOp BoolOp.And [_] _) _); refine dw_and1 ?_)
  | ((with_reducible show DW.DW _ _ (Expr.BoolOp BoolOp.Or [_] _) _); refine dw_or1 ?_)
  | ((with_reducible show DW.DW _ _ (Expr.BoolOp BoolOp.And _ _) _); refine dw_and ?_)
  | ((with_reducible show DW.DW _ _ (Expr.BoolOp BoolOp.Or _ _) _); refine dw_or ?_)
  | ((with_reducible show DAd _ _ [] _); refine dad_nil ?_)
  | ((with_reducible show DAd _ _ _ _); refine dad_cons ?_)
  | ((with_reducible show DAv _ _ [] _); refine dav_nil ?_)
  | ((with_reducible show DAv _ _ _ _); refine dav_cons ?_)
  | ((with_reducible show DO _ _ none _); refine do_none ?_)
  | ((with_reducible show DO _ _ _ _); refine do_some ?_)
  | ((with_reducible show ∃ dx dy, DatOf _ (EV.dat _) dx ∧ DatOf _ (EV.dat _) dy ∧ _); refine ⟨_, _, .dat, .dat, ?_⟩)
  | ((with_reducible show ∃ dx dy, DatOf _ (EV.dat _) dx ∧ (EV.dat _) = EV.dat dy ∧ _); refine ⟨_, _, .dat, rfl, ?_⟩)
  | ((with_reducible show ∃ dx dy, DatOf _ _ dx ∧ DatOf _ _ dy ∧ _); first | refine ⟨_, _, .own rfl, .dat, ?_⟩ | refine ⟨_, _, .dat, .own rfl, ?_⟩ | refine ⟨_, _, .own rfl, .own rfl, ?_⟩)
  | ((with_reducible show ∃ dx, DatOf _ (EV.dat _) dx ∧ _); refine ⟨_, .dat, ?_⟩)
  | ((with_reducible show ∃ dx, DatOf _ _ dx ∧ _); refine ⟨_, .own rfl, ?_⟩)
  | ((with_reducible show ∃ d, _ = _ ∧ _); refine ⟨_, rfl, ?_⟩)
  | ((with_reducible show ∃ av : AV, _ ∧ _); first | refine ⟨_, Or.inl ⟨rfl, rfl⟩, ?_⟩ | refine ⟨_, Or.inr ⟨_, rfl, rfl⟩, ?_⟩))
local macro_rules | `(tactic| walk_at "db") => `(tactic| first
  | refine ⟨fun _ => ?_, fun h => Bool.noConfusion h⟩ | refine ⟨fun h => Bool.noConfusion h, fun _ => ?_⟩)
local macro_rules | `(tactic| walk_at "dst") => `(tactic| first
  | ((with_reducible show DS _ _ (Stmt.If _ _ _ _) _ _ _ _); refine ds_if ?_)
  | ((with_reducible show DS _ _ (Stmt.Expr _ _) _ _ _ _); refine ds_expr ?_)
  | ((with_reducible show DS _ _ (Stmt.Pass _) _ _ _ _); refine ds_pass ?_)
  | ((with_reducible show DS _ _ (Stmt.Assign [Expr.Subscript (Expr.Name _ _) (Expr.Constant (Const.int _) _ _) _] _ _) _ _ _ _); refine ds_drwSet (by walk_at "wa") (by walk_at "wv") ?_)
  | ((with_reducible show DS _ _ (Stmt.Return (some (Expr.ListComp _ _ _ _)) _) _ _ _ _); refine ds_retL ?_)
  | ((with_reducible show DS _ _ (Stmt.Return (some (Expr.List _ _)) _) _ _ _ _); refine ds_retL (dl_list ?_))
  | ((with_reducible show DS _ _ (Stmt.Return (some (Expr.Name _ _)) _) _ _ _ _); first
    | refine ds_ret (nm_dat (by walk_at "wa") (by walk_at "wv") (by rfl) ?_)
    | refine ds_retO (nm_own (by walk_at "wa") (by walk_at "wv") (by rfl) ⟨_, _, rfl, rfl, ?_⟩)
    | refine ds_ret ?_)
  | ((with_reducible show DS _ _ (Stmt.Return (some _) _) _ _ _ _); refine ds_ret ?_)
  | ((with_reducible show DS _ _ (Stmt.Assign [Expr.Name _ _] _ _) _ _ _ _); (fail_if_success (with_reducible show DS _ _ (Stmt.Assign [Expr.Name _ _] (Expr.ListComp _ _ _ _) _) _ _ _ _)); (fail_if_success (with_reducible show DS _ _ (Stmt.Assign [Expr.Name _ _] (Expr.List _ _) _) _ _ _ _)); refine st_set (by walk_at "wa") (by walk_at "wa") (by walk_at "wa") ?_))
local macro_rules | `(tactic| walk_at "e") => `(tactic| repeat (first | walk_at "d1" | walk_at "db"))
local macro_rules | `(tactic| walk_at "d") => `(tactic| repeat (first | walk_at "d1" | walk_at "db" | ((with_reducible show DS _ _ _ _ _ _ _); walk_at "dst") | ((with_reducible show DB _ _ [] _ _ _ _); refine db_nil ?_) | ((with_reducible show DB _ _ _ _ _ _ _); refine db_cons ?_)))
local macro_rules | `(tactic| walk_at "ds") => `(tactic| refine st_set (by walk_at "wa") (by walk_at "wa") (by walk_at "wa") ?_)
local macro_rules | `(tactic| walk_at "dsl") => `(tactic| refine st_setL (by walk_at "wa") (by walk_at "wa") (by walk_at "wa") ?_)
local macro_rules | `(tactic| walk_at "dz") => `(tactic| dsimp (config := { proj := false }) only [List.set, List.map, List.replicate, List.cons_append, List.nil_append, AV.sv])
section
variable {P : Program} {w : World} {K : PySem.W.Frag} {mg : Str → Option Value} {base : Heap}
def named (x : Str) (n : Int) : Bool := if x = "->" then decide (n = 2) else decide (n ≤ 3) && isName x
def fs_L_named : FS := fun avs R => ∃ (x : Str) (n : Int), avs = [.dat (.str x), .dat (.int n)] ∧ x.length ≤ 1000 ∧ R (.dat (.bool (named x n)))
theorem caps_cut : cutS signs (some 26) (some 52) = caps := by decide +kernel
theorem signs_len : signs.length ≤ sizeLine := by decide +kernel
theorem filter_empty {α β : Type} (l : List α) (t : α → Bool) (f : α → β) : ((l.filter t).map f).isEmpty = l.all fun a => !t a := by
  induction l with
  | nil => rfl
  | cons a l ih =>
    rw [List.filter_cons, List.all_cons]
    cases h : t a with
    | true => rfl
    | false => rw [if_neg (by simp), ih]; rfl
theorem ok_L_named {k : Nat} (T : Tp K mg) : Fn P w K mg base (k + 1) "_law_named" fs_L_named := by
  refine T.d_L_named.ok sc_L_named (fun avs R h => ?_) (fun f cdv A outer s H E dr avs R hr hgd h => ?_)
  · obtain ⟨d, _, rfl, _⟩ := h
    rfl
  obtain ⟨x, n, rfl, hx, hR⟩ := h
  have T' : Tp (fcx P w K mg base n_L_named "_law_named" s_L_named f cdv A outer s H E).K (fcx P w K mg base n_L_named "_law_named" s_L_named f cdv A outer s H E).mg := T
  have v0 : (fcx P w K mg base n_L_named "_law_named" s_L_named f cdv A outer s H E).N[0]? = some ("_law_name" : Str) := rfl
  have w0 : Vis (fcx P w K mg base n_L_named "_law_named" s_L_named f cdv A outer s H E).env.scope "_law_name" := by walk_at "dv"
  have l0 : Loc (fcx P w K mg base n_L_named "_law_named" s_L_named f cdv A outer s H E).env.scope "_law_name" := by walk_at "dl"
  have v1 : (fcx P w K mg base n_L_named "_law_named" s_L_named f cdv A outer s H E).N[1]? = some ("_law_many" : Str) := rfl
  have w1 : Vis (fcx P w K mg base n_L_named "_law_named" s_L_named f cdv A outer s H E).env.scope "_law_many" := by walk_at "dv"
  have l1 : Loc (fcx P w K mg base n_L_named "_law_named" s_L_named f cdv A outer s H E).env.scope "_law_many" := by walk_at "dl"
  have v2 : (fcx P w K mg base n_L_named "_law_named" s_L_named f cdv A outer s H E).N[2]? = some ("_law_signs" : Str) := rfl
  have w2 : Vis (fcx P w K mg base n_L_named "_law_named" s_L_named f cdv A outer s H E).env.scope "_law_signs" := by walk_at "dv"
  have l2 : Loc (fcx P w K mg base n_L_named "_law_named" s_L_named f cdv A outer s H E).env.scope "_law_signs" := by walk_at "dl"
  have v3 : (fcx P w K mg base n_L_named "_law_named" s_L_named f cdv A outer s H E).N[3]? = some ("_law_sign" : Str) := rfl
  have nd : (fcx P w K mg base n_L_named "_law_named" s_L_named f cdv A outer s H E).N.Nodup := sc_L_named.nd
  have b_len := T'.b_len
  have rm : Rm ⟨(fcx P w K mg base n_L_named "_law_named" s_L_named f cdv A outer s H E), H, dr⟩ := rm_of hr
  have gd : Gd ⟨(fcx P w K mg base n_L_named "_law_named" s_L_named f cdv A outer s H E), H, dr⟩ := hgd
  rw [show List.replicate (n_L_named.length - [("_law_name" : Str), ("_law_many" : Str)].length) SV.no = [.no, .no] from rfl]
  walk_at "dz"
  have hz : x.length ≤ sizeLine := by unfold sizeLine; omega
  walk_at "d"
  refine ⟨fun h => ?_, fun h => ?_⟩
  · have h := dTr h
    walk_at "d"
    rw [named, if_pos h] at hR
    exact hR
  have h := dFa h
  rw [named, if_neg h] at hR
  walk_at "d"
  refine ⟨fun h3 => ?_, fun h3 => ?_⟩
  · walk_at "d"
    rw [decide_eq_false (show ¬ n ≤ 3 by have := dTr h3; omega), Bool.false_and] at hR
    exact hR
  rw [decide_eq_true (show n ≤ 3 by have := dFa h3; omega), Bool.true_and] at hR
  walk_at "d"
  · refine ⟨fun h1 => ?_, fun h1 => ?_⟩
    · walk_at "d"
      refine ⟨fun h8 => ?_, fun h8 => ?_⟩
      · walk_at "d"
        refine rb hR (isName_len8 ?_).symm
        have h8 := nTd h8
        omega
      · have h1 := dTr h1
        have h8 := nFd h8
        cases hc : x.cps.toList with
        | nil =>
          exfalso
          have : x.length = 0 := by
            show x.cps.size = 0
            rw [← Array.length_toList, hc]; rfl
          omega
        | cons c cs =>
          rw [isName_cons hc (by omega)] at hR
          walk_at "d"
          refine dix_str hz (c := c) (atI_nat (j := 0) (by rw [hc]; rfl)) ?_
          walk_at "d"
          refine ⟨signs_len, ?_⟩
          rw [show cutS (Str.ofString "abcdefghijklmnopqrstuvwxyzABCDEFGHIJKLMNOPQRSTUVWXYZ0123456789") (some 26) (some 52) = caps from caps_cut]
          walk_at "d"
          refine ⟨fun h => ?_, fun h => ?_⟩
          · walk_at "d"
            refine rb hR ?_
            rw [show decide (c ∈ caps.cps.toList) = false from nT h, Bool.false_and]
          rw [show decide (c ∈ caps.cps.toList) = true from nF h, Bool.true_and] at hR
          walk_at "dz"
          walk_at "d"
          refine DL.de (lc_filterA v3 nd rfl (fun c => !decide (c ∈ signs.cps.toList)) (fun c : Nat => .str ⟨#[c]⟩) (fun c : Nat => .str ⟨#[c]⟩) (di_str ?_))
          walk_at "d"
          refine ⟨rfl, ?_, fun c hc s1 H1 C1 cl fp Hx => ?_, fun c hc hh s1 H1 C1 cl fp Hx => ?_, ?_⟩
          · rw [List.length_map, Array.length_toList]
            show x.length < sizeLine
            unfold sizeLine; omega
          · walk_at "d"
            exact ⟨rfl, rfl⟩
          · walk_at "d"
            exact ⟨rfl, rfl⟩
          walk_at "d"
          rw [filter_empty]
          refine rb hR ?_
          simp only [Bool.not_not]
    · walk_at "d"
      refine rb hR (isName_len0 ?_).symm
      have h1 := dFa h1
      omega
  · exact hz
end
end K01
namespace K01
open PySem L2 DW PyProof.Rows
/-! ### the data that the law makes -/
def texts : List Str := ["", "Int", "->", "int", "A_", "Abcdefghi", "A", "b", "Aa1", "1A", "B", "Z9", "Abcdefgh", "W", "List", "W1", "P", "Pair", "T", "Three", "T3", "A\n", "Ab\n", "\nA", "A_b", "A b", "A-", "->\n", "Aa1Bb2Cc", "Aa1Bb2Cc\n", "Aa1Bb2Cc3"]
def okInt (i : Int) : Bool := decide (-1 ≤ i) && decide (i ≤ 200) || decide (i = 10 ^ 30)
mutual
def gda : PyData → Bool
  | .none => true
  | .bool _ => true
  | .int i => okInt i
  | .str x => texts.contains x
  | .list [] => true
  | .list [.str x] => texts.contains x
  | .list [.int i] => decide (i = 0)
  | .list _ => false
  | .tuple ds => gdas ds
  | .dict kvs => kvs.isEmpty
def gdas : List PyData → Bool
  | [] => true
  | d :: ds => gda d && gdas ds
end
mutual
def wt : PyData → Nat
  | .tuple ds => 44 + wts ds
  | _ => 44
def wts : List PyData → Nat
  | [] => 0
  | d :: ds => wt d + wts ds
end
theorem int_len {i : Int} (h : okInt i = true) : (PyData.shown (.int i)).length ≤ 34 := by
  unfold okInt at h
  rcases (Bool.or_eq_true_iff.mp h) with h | h
  · obtain ⟨h1, h2⟩ := Bool.and_eq_true_iff.mp h
    have h1 := of_decide_eq_true h1
    have h2 := of_decide_eq_true h2
    have key : ∀ n : Fin 202, (PyData.shown (.int ((n.val : Int) - 1))).length ≤ 34 := by decide +kernel
    have := key ⟨(i + 1).toNat, by omega⟩
    have e : (((i + 1).toNat : Int) - 1) = i := by omega
    simpa only [e] using this
  · rw [of_decide_eq_true h]
    decide +kernel
theorem str_len {x : Str} (h : texts.contains x = true) : (PyData.shown (.str x)).length ≤ 34 ∧ x.length ≤ 30 := by
  have key : ∀ y ∈ texts, (PyData.shown (.str y)).length ≤ 34 ∧ y.length ≤ 30 := by decide +kernel
  exact key x (List.contains_iff_mem.mp h)
theorem int_show {i : Int} (h : okInt i = true) : (PyData.int i).showable = true := by
  unfold okInt at h
  rcases (Bool.or_eq_true_iff.mp h) with h | h
  · obtain ⟨h1, h2⟩ := Bool.and_eq_true_iff.mp h
    have h1 := of_decide_eq_true h1
    have h2 := of_decide_eq_true h2
    have key : ∀ n : Fin 202, (PyData.int ((n.val : Int) - 1)).showable = true := by decide +kernel
    have := key ⟨(i + 1).toNat, by omega⟩
    have e : (((i + 1).toNat : Int) - 1) = i := by omega
    simpa only [e] using this
  · rw [of_decide_eq_true h]
    decide +kernel
theorem tupleText_le (ts : List Str) : (tupleText ts).length ≤ piled ts + 3 := by
  unfold tupleText
  rw [strLen_append, strLen_append]
  have e1 : ((("(" : String) : Str)).length = 1 := rfl
  have e3 : (((if ts.length == 1 then ",)" else ")" : String) : Str)).length ≤ 2 := by split <;> decide
  rw [e1]
  by_cases h : ts = []
  · subst h; have e4 : (Str.join ", " []).length = 0 := rfl; rw [e4]; omega
  · have := join_length_add ts h
    omega
mutual
theorem shown_le : ∀ d : PyData, gda d = true → d.shown.length + 4 ≤ wt d
  | .none, _ => by rw [wt]; · decide +kernel
                   · intro ds e; exact nomatch e
  | .bool b, _ => by
    rw [wt]
    · cases b <;> decide +kernel
    · intro ds e; exact nomatch e
  | .int i, h => by
    rw [wt]
    · rw [gda] at h; have := int_len h; omega
    · intro ds e; exact nomatch e
  | .str x, h => by
    rw [wt]
    · rw [gda] at h; have := (str_len h).1; omega
    · intro ds e; exact nomatch e
  | .dict kvs, h => by
    rw [wt]
    · rw [gda, List.isEmpty_iff] at h; subst h; decide +kernel
    · intro ds e; exact nomatch e
  | .list [], h => by
    rw [wt]
    · decide +kernel
    · intro ds e; exact nomatch e
  | .list [.str x], h => by
    rw [wt]
    · rw [gda] at h
      have key : ∀ y ∈ texts, (PyData.shown (.list [.str y])).length + 4 ≤ 44 := by decide +kernel
      exact key x (List.contains_iff_mem.mp h)
    · intro ds e; exact nomatch e
  | .list [.int i], h => by
    rw [wt]
    · rw [gda] at h
      rw [of_decide_eq_true h]
      decide +kernel
    · intro ds e; exact nomatch e
  | .list (.none :: _), h => by simp [gda] at h
  | .list (.bool _ :: _), h => by simp [gda] at h
  | .list (.list _ :: _), h => by simp [gda] at h
  | .list (.tuple _ :: _), h => by simp [gda] at h
  | .list (.dict _ :: _), h => by simp [gda] at h
  | .list (.str _ :: _ :: _), h => by simp [gda] at h
  | .list (.int _ :: _ :: _), h => by simp [gda] at h
  | .tuple ds, h => by
    rw [wt, PyData.shown]
    rw [gda] at h
    have := showns_le ds h
    have := tupleText_le (PyData.shownAll ds)
    omega
theorem showns_le : ∀ ds : List PyData, gdas ds = true → piled (PyData.shownAll ds) ≤ wts ds
  | [], _ => Nat.le_refl _
  | d :: ds, h => by
    rw [gdas, Bool.and_eq_true] at h
    rw [PyData.shownAll, piled_cons, wts]
    have := shown_le d h.1
    have := showns_le ds h.2
    omega
end
mutual
theorem show_of : ∀ d : PyData, gda d = true → d.showable = true
  | .none, _ => rfl
  | .bool b, _ => rfl
  | .int i, h => by rw [gda] at h; exact int_show h
  | .str x, h => rfl
  | .dict kvs, h => by rw [gda, List.isEmpty_iff] at h; subst h; rfl
  | .list [], h => rfl
  | .list [.str x], h => rfl
  | .list [.int i], h => by rw [gda] at h; rw [of_decide_eq_true h]; decide +kernel
  | .list (.none :: _), h => by simp [gda] at h
  | .list (.bool _ :: _), h => by simp [gda] at h
  | .list (.list _ :: _), h => by simp [gda] at h
  | .list (.tuple _ :: _), h => by simp [gda] at h
  | .list (.dict _ :: _), h => by simp [gda] at h
  | .list (.str _ :: _ :: _), h => by simp [gda] at h
  | .list (.int _ :: _ :: _), h => by simp [gda] at h
  | .tuple ds, h => by
    rw [PyData.showable]
    rw [gda] at h
    exact shows_of ds h
theorem shows_of : ∀ ds : List PyData, gdas ds = true → PyData.showableAll ds = true
  | [], _ => rfl
  | d :: ds, h => by
    rw [gdas, Bool.and_eq_true] at h
    rw [PyData.showableAll, show_of d h.1, shows_of ds h.2]
    rfl
end
mutual
theorem short_of : ∀ d : PyData, gda d = true → short d = true
  | .none, _ => by simp [short]
  | .bool b, _ => by simp [short]
  | .int i, h => by simp [short]
  | .str x, h => by rw [gda] at h; rw [short]; have := (str_len h).2; exact decide_eq_true (by omega)
  | .dict kvs, h => by simp [short]
  | .list [], h => by simp [short, shorts]
  | .list [.str x], h => by rw [gda] at h; have := (str_len h).2; rw [short, shorts, short, shorts, decide_eq_true (by omega)]; rfl
  | .list [.int i], h => by simp [short, shorts]
  | .list (.none :: _), h => by simp [gda] at h
  | .list (.bool _ :: _), h => by simp [gda] at h
  | .list (.list _ :: _), h => by simp [gda] at h
  | .list (.tuple _ :: _), h => by simp [gda] at h
  | .list (.dict _ :: _), h => by simp [gda] at h
  | .list (.str _ :: _ :: _), h => by simp [gda] at h
  | .list (.int _ :: _ :: _), h => by simp [gda] at h
  | .tuple ds, h => by
    rw [short]
    rw [gda] at h
    exact shorts_of ds h
theorem shorts_of : ∀ ds : List PyData, gdas ds = true → shorts ds = true
  | [], _ => by rw [shorts]
  | d :: ds, h => by
    rw [gdas, Bool.and_eq_true] at h
    rw [shorts, short_of d h.1, shorts_of ds h.2]
    rfl
end
/-- what the law asks about -/
structure Cls (d : PyData) : Prop where
  g : gda d = true
  w : wt d ≤ 100000
  dp : d.depth ≤ 60
  one : d.hasDict = false ∨ noList d = true
end K01
namespace K01
open PySem L2 DW PyProof.Rows
mutual
def tl : PyData → Bool
  | .int _ => true
  | .tuple (_ :: ds) => tls ds
  | _ => false
def tls : List PyData → Bool
  | [] => true
  | d :: ds => tl d && tls ds
end
/-- a shape that the law made -/
structure Gs (w k : Nat) (d : PyData) : Prop where
  g : gda d = true
  w : wt d ≤ w
  dp : d.depth ≤ k
  nd : d.hasDict = false
  nl : noList d = true
  t : tl d = true
structure GsL (w k : Nat) (ds : List PyData) : Prop where
  g : gdas ds = true
  w : wts ds ≤ w
  dp : PyData.depthAll ds ≤ k
  nd : PyData.hasDictAll ds = false
  nl : noLists ds = true
  t : tls ds = true
theorem Gs.mono {w w' k k' : Nat} {d : PyData} (h : Gs w k d) (hw : w ≤ w') (hk : k ≤ k') : Gs w' k' d := ⟨h.g, Nat.le_trans h.w hw, Nat.le_trans h.dp hk, h.nd, h.nl, h.t⟩
theorem GsL.mono {w w' k k' : Nat} {d : List PyData} (h : GsL w k d) (hw : w ≤ w') (hk : k ≤ k') : GsL w' k' d := ⟨h.g, Nat.le_trans h.w hw, Nat.le_trans h.dp hk, h.nd, h.nl, h.t⟩
theorem wt_int (i : Int) : wt (.int i) = 44 := by simp [wt]
theorem wt_str (i : Str) : wt (.str i) = 44 := by simp [wt]
theorem Gs.int {i : Int} (h0 : 0 ≤ i) (h1 : i ≤ 200) : Gs 44 0 (.int i) := by
  refine ⟨?_, by rw [wt_int]; omega, Nat.le_refl 0, rfl, rfl, by rw [tl]⟩
  rw [gda, okInt, decide_eq_true (by omega : -1 ≤ i), decide_eq_true h1]
  rfl
theorem GsL.nil (k : Nat) : GsL 0 k [] := ⟨by rw [gdas], by rw [wts]; omega, Nat.zero_le _, rfl, rfl, by rw [tls]⟩
theorem GsL.cons {w w' k : Nat} {d : PyData} {ds : List PyData} (h : Gs w k d) (q : GsL w' k ds) : GsL (w + w') k (d :: ds) := by
  refine ⟨by rw [gdas, h.g, q.g]; rfl, ?_, ?_, ?_, ?_, by rw [tls, h.t, q.t]; rfl⟩
  · rw [wts]; have := h.w; have := q.w; omega
  · rw [PyData.depthAll]; have := h.dp; have := q.dp; omega
  · rw [PyData.hasDictAll, h.nd, q.nd]; rfl
  · rw [noLists, h.nl, q.nl]; rfl
theorem GsL.inv {w k : Nat} {d : PyData} {ds : List PyData} (h : GsL w k (d :: ds)) : Gs w k d ∧ GsL (w - wt d) k ds := by
  obtain ⟨h1, h2, h3, h4, h5, h6⟩ := h
  rw [gdas, Bool.and_eq_true] at h1
  rw [wts] at h2
  rw [PyData.depthAll] at h3
  rw [PyData.hasDictAll, Bool.or_eq_false_iff] at h4
  rw [noLists, Bool.and_eq_true] at h5
  rw [tls, Bool.and_eq_true] at h6
  exact ⟨⟨h1.1, by omega, by omega, h4.1, h5.1, h6.1⟩, ⟨h1.2, by omega, by omega, h4.2, h5.2, h6.2⟩⟩
theorem GsL.snoc {w' k : Nat} {d : PyData} (h : Gs w' k d) : ∀ {ds : List PyData} {w : Nat}, GsL w k ds → GsL (w + w') k (ds ++ [d])
  | [], w, q => by
    have := (GsL.cons h (GsL.nil k))
    exact this.mono (by omega) (Nat.le_refl _)
  | e :: ds, w, q => by
    obtain ⟨a, b⟩ := q.inv
    have hw := q.w
    rw [wts] at hw
    have a' : Gs (wt e) k e := ⟨a.g, Nat.le_refl _, a.dp, a.nd, a.nl, a.t⟩
    have := GsL.cons a' (GsL.snoc h b)
    exact this.mono (by omega) (Nat.le_refl _)
theorem Gs.node {w k : Nat} {x : Str} {ds : List PyData} (hx : texts.contains x = true) (q : GsL w k ds) : Gs (88 + w) (k + 1) (.tuple (.str x :: ds)) := by
  refine ⟨?_, ?_, ?_, ?_, ?_, by rw [tl]; exact q.t⟩
  · rw [gda, gdas, gda, hx, q.g]; rfl
  · rw [wt, wts, wt_str]; have := q.w; omega
  · rw [PyData.depth, PyData.depthAll, PyData.depth]; have := q.dp; omega
  · rw [PyData.hasDict, PyData.hasDictAll, PyData.hasDict, q.nd]; rfl
  · rw [noList, noLists, noList, q.nl]; rfl
theorem Gs.unit {x : Str} (hx : texts.contains x = true) : Gs 88 1 (.tuple [.str x]) := (Gs.node hx (GsL.nil 0)).mono (by omega) (by omega)
/-! ### how deep a shape of so many nodes goes -/
def cap : Nat → Int
  | 0 => 0
  | n + 1 => if n < 8 then n + 1 else 4 * cap n / 3
theorem cap_le8 {n : Nat} (h : n ≤ 8) : cap n = n := by
  cases n with
  | zero => rfl
  | succ n => rw [cap, if_pos (by omega)]; omega
theorem cap_ge8 {n : Nat} (h : 8 ≤ n) : 8 ≤ cap n := by
  induction n with
  | zero => omega
  | succ n ih =>
    by_cases h8 : n + 1 ≤ 8
    · rw [cap_le8 h8]; omega
    · have := ih (by omega)
      rw [cap, if_neg (by omega)]
      omega
theorem cap_small {n : Nat} {m : Int} (h8 : m ≤ 8) (h : m ≤ cap (n + 1)) : m - 1 ≤ cap n := by
  by_cases hn : n < 8
  · rw [cap, if_pos hn] at h
    rw [cap_le8 (by omega)]
    omega
  · have := cap_ge8 (show 8 ≤ n by omega)
    omega
theorem cap_big {n : Nat} {m k : Int} (h8 : 8 < m) (h : m ≤ cap (n + 1)) (hk : 4 * k ≤ 3 * m) : k ≤ cap n := by
  by_cases hn : n < 8
  · rw [cap, if_pos hn] at h
    omega
  · rw [cap, if_neg hn] at h
    omega
/-- the nodes that are left before part i -/
def Lp (m c : Int) (i : Nat) (l : Int) : Prop := c - i ≤ l ∧ l ≤ m - 1 ∧ ((i : Int) = c → l = 0) ∧ (i = 0 → l = m - 1) ∧ (8 < m → (i = 1 → c = 3 → (m - 1) - (m - 1) / 3 ≤ l ∧ l ≤ (m - 1) - (m - 1) / 3 + (m - 1) / 8) ∧ ((i : Int) + 1 = c → 4 * l ≤ 3 * m))
/-- the nodes of part i -/
def Mo (m c : Int) (i : Nat) (l p : Int) : Prop := 1 ≤ p ∧ p ≤ l - (c - 1 - i) ∧ ((i : Int) + 1 = c → p = l) ∧ (8 < m → 4 * p ≤ 3 * m ∧ (i = 0 → c = 3 → (m - 1) / 3 - (m - 1) / 8 ≤ p ∧ p ≤ (m - 1) / 3) ∧ ((i : Int) + 2 = c → l / 2 - l / 8 ≤ p ∧ p ≤ l / 2))
theorem lp_next {m c l p : Int} {i : Nat} (hc : 1 ≤ c) (hc3 : c ≤ 3) (hi : (i : Int) < c) (h : Lp m c i l) (q : Mo m c i l p) (h8 : 8 < m → 2 ≤ c) : Lp m c (i + 1) (l - p) := by
  obtain ⟨a1, a2, a3, a4, a5⟩ := h
  obtain ⟨b1, b2, b3, b4⟩ := q
  refine ⟨by omega, by omega, fun e => ?_, fun e => (by omega), fun h => ⟨fun e1 e2 => ?_, fun e => ?_⟩⟩
  · have := b3 (by omega); omega
  · have h1 : i = 0 := by omega
    obtain ⟨_, b5, _⟩ := b4 h
    have := b5 h1 e2
    have := a4 h1
    omega
  · obtain ⟨_, b5, b6⟩ := b4 h
    have b6 := b6 (by omega)
    have hc2 := h8 h
    rcases (by omega : c = 2 ∨ c = 3) with rfl | rfl
    · have h1 : i = 0 := by omega
      have := a4 h1
      omega
    · have h1 : i = 1 := by omega
      have := (a5 h).1 h1 rfl
      omega
theorem mo_last {m c l : Int} {i : Nat} (hc : 1 ≤ c) (h : Lp m c i l) (hi : (i : Int) + 1 = c) (h8 : 8 < m → 2 ≤ c) : Mo m c i l l := by
  obtain ⟨a1, a2, a3, a4, a5⟩ := h
  refine ⟨by omega, by omega, fun _ => rfl, fun h => ⟨?_, fun e1 e2 => ?_, fun e => ?_⟩⟩
  · exact (a5 h).2 hi
  · omega
  · omega
theorem mo_small {m c l r : Int} {i : Nat} (h : Lp m c i l) (hi : (i : Int) + 1 < c) (h8 : m ≤ 8) (h0 : 0 ≤ r) (h1 : r < l - (c - 1 - i)) : Mo m c i l (1 + r) := by
  obtain ⟨a1, a2, a3, a4, a5⟩ := h
  exact ⟨by omega, by omega, by omega, by omega⟩
theorem mo_big {m c l r : Int} {i : Nat} (hc3 : c ≤ 3) (h : Lp m c i l) (hi : (i : Int) + 1 < c) (h8 : 8 < m) (h0 : 0 ≤ r) (h1 : r < 1 + l / 8) : Mo m c i l (l / (c - 1 - i + 1) - r) := by
  obtain ⟨a1, a2, a3, a4, a5⟩ := h
  obtain ⟨a5, a6⟩ := a5 h8
  rcases (by omega : (c = 2 ∧ i = 0) ∨ (c = 3 ∧ i = 0) ∨ (c = 3 ∧ i = 1)) with ⟨rfl, rfl⟩ | ⟨rfl, rfl⟩ | ⟨rfl, rfl⟩
  · have := a4 rfl
    rw [show (2 : Int) - 1 - ((0 : Nat) : Int) + 1 = 2 from rfl]
    exact ⟨by omega, by omega, by omega, fun _ => ⟨by omega, by omega, by omega⟩⟩
  · have := a4 rfl
    rw [show (3 : Int) - 1 - ((0 : Nat) : Int) + 1 = 3 from rfl]
    exact ⟨by omega, by omega, by omega, fun _ => ⟨by omega, by omega, by omega⟩⟩
  · have := a5 rfl rfl
    rw [show (3 : Int) - 1 - ((1 : Nat) : Int) + 1 = 2 from rfl]
    exact ⟨by omega, by omega, by omega, fun _ => ⟨by omega, by omega, by omega⟩⟩
theorem mo_cap {n : Nat} {m c l p : Int} {i : Nat} (h : m ≤ cap (n + 1)) (hl : Lp m c i l) (q : Mo m c i l p) (hi : (i : Int) < c) : p ≤ cap n := by
  obtain ⟨a1, a2, a3, a4, a5⟩ := hl
  obtain ⟨b1, b2, b3, b4⟩ := q
  by_cases h8 : m ≤ 8
  · have := cap_small h8 h
    omega
  · exact cap_big (by omega) h (b4 (by omega)).1
end K01
namespace K01
open PySem L2 DW PyProof.Rows
local macro_rules | `(tactic| walk_at "dv") => `(tactic| first | exact Or.inl rfl | exact Or.inr (Or.inl rfl) | exact Or.inr (Or.inr rfl))
local macro_rules | `(tactic| walk_at "dl") => `(tactic| first | exact Or.inl rfl | exact Or.inr rfl)
local macro_rules | `(tactic| walk_at "wv") => `(tactic| first | with_reducible assumption | walk_at "dv")
local macro_rules | `(tactic| walk_at "wa") => `(tactic| with_reducible assumption)
local macro_rules | `(tactic| walk_at "rm") => `(tactic| first | with_reducible assumption | (apply Rm.blk; with_reducible assumption))
local macro_rules | `(tactic| walk_at "dn") => `(tactic| first
  | refine nm_dat (by walk_at "wa") (by walk_at "wv") (by rfl) ?_ | refine nm_own (by walk_at "wa") (by walk_at "wv") (by rfl) ?_ | refine nm_drw (by walk_at "wa") (by walk_at "wv") (by rfl) ?_ | refine nm_scr (by walk_at "wa") (by walk_at "wv") (by rfl) ?_
  | refine de_globI (by walk_at "wa") rfl ?_ | refine de_globS (by walk_at "wa") rfl ?_)
local macro_rules | `(tactic| walk_at "dci") => `(tactic| first
  | ((with_reducible show DE _ _ (Expr.Call _ [_, Expr.Name "int" _] _ _) _); refine de_is kInt bt_int (by walk_at "wa") (by walk_at "wa") ?_)
  | ((with_reducible show DE _ _ (Expr.Call _ [_, Expr.Name "bool" _] _ _) _); refine de_is kBool bt_bool (by walk_at "wa") (by walk_at "wa") ?_)
  | ((with_reducible show DE _ _ (Expr.Call _ [_, Expr.Name "str" _] _ _) _); refine de_is kStr bt_str (by walk_at "wa") (by walk_at "wa") ?_)
  | ((with_reducible show DE _ _ (Expr.Call _ [_, Expr.Name "tuple" _] _ _) _); refine de_is kTup bt_tuple (by walk_at "wa") (by walk_at "wa") ?_)
  | ((with_reducible show DE _ _ (Expr.Call _ [_, Expr.Name "list" _] _ _) _); refine de_is kLst bt_list (by walk_at "wa") (by walk_at "wa") ?_)
  | ((with_reducible show DE _ _ (Expr.Call _ [_, Expr.Tuple [Expr.Name "tuple" _, Expr.Name "list" _] _ _] _ _) _); refine de_is2 kTup kLst bt_tuple bt_list (by walk_at "wa") (by walk_at "wa") (by walk_at "wa") ?_)
  | ((with_reducible show DE _ _ (Expr.Call _ [_, Expr.Tuple [Expr.Name "int" _, Expr.Name "tuple" _] _ _] _ _) _); refine de_is2 kInt kTup bt_int bt_tuple (by walk_at "wa") (by walk_at "wa") (by walk_at "wa") ?_))
local macro_rules | `(tactic| walk_at "dc") => `(tactic| first
  | ((with_reducible show DE _ _ (Expr.Call (Expr.Name "isinstance" _) _ _ _) _); walk_at "dci")
  | ((with_reducible show DE _ _ (Expr.Call (Expr.Name "len" _) [Expr.Name _ _] _ _) _); refine len_scr (by walk_at "wa") (by walk_at "wv") (by rfl) (by walk_at "wa") ?_)
  | ((with_reducible show DE _ _ (Expr.Call (Expr.Name "len" _) _ _ _) _); refine de_b1 bb_len (by walk_at "wa") ?_)
  | ((with_reducible show DE _ _ (Expr.Call (Expr.Name "abs" _) _ _ _) _); refine de_b1 bb_abs (by walk_at "wa") ?_)
  | ((with_reducible show DE _ _ (Expr.Call (Expr.Name "repr" _) _ _ _) _); refine de_b1 bb_repr (by walk_at "wa") ?_)
  | ((with_reducible show DE _ _ (Expr.Call (Expr.Name "all" _) _ _ _) _); refine de_b1 bb_all (by walk_at "wa") ?_)
  | ((with_reducible show DE _ _ (Expr.Call (Expr.Name "any" _) _ _ _) _); refine de_b1 bb_any (by walk_at "wa") ?_)
  | ((with_reducible show DE _ _ (Expr.Call (Expr.Name "sum" _) _ _ _) _); refine de_b1 bb_sum (by walk_at "wa") ?_)
  | ((with_reducible show DE _ _ (Expr.Call (Expr.Name "max" _) _ _ _) _); refine de_b1 bb_max (by walk_at "wa") ?_)
  | ((with_reducible show DE _ _ (Expr.Call (Expr.Name "int" _) _ _ _) _); refine de_t1 bt_int (by walk_at "wa") ?_)
  | ((with_reducible show DE _ _ (Expr.Call (Expr.Name "tuple" _) _ _ _) _); refine de_t1 bt_tuple (by walk_at "wa") ?_)
  | ((with_reducible show DE _ _ (Expr.Call (Expr.Name "min" _) _ _ _) _); refine de_b2 bb_min (by walk_at "wa") ?_)
  | ((with_reducible show DE ⟨blkX _ _ _ _ _ _ _, _, _⟩ _ _ _); refine de_fB (by walk_at "wa") ?_)
  | refine de_f (by walk_at "wa") ?_)
local macro_rules | `(tactic| walk_at "de") => `(tactic| first
  | ((with_reducible show DE _ _ (Expr.Name _ _) _); walk_at "dn")
  | ((with_reducible show DE _ _ (Expr.Call (Expr.Name _ _) _ _ _) _); walk_at "dc")
  | ((with_reducible show DE _ _ (Expr.Constant (Const.int _) _ _) _); refine de_int ?_)
  | ((with_reducible show DE _ _ (Expr.Constant (Const.str _) _ _) _); refine de_str ?_)
  | ((with_reducible show DE _ _ (Expr.Constant (Const.bool _) _ _) _); refine de_bl ?_)
  | ((with_reducible show DE _ _ (Expr.Constant Const.none _ _) _); refine de_non ?_)
  | ((with_reducible show DE _ _ (Expr.Compare _ [_] _ _) _); refine de_cmp ?_)
  | ((with_reducible show DE _ _ (Expr.Compare _ [_, _] _ _) _); refine de_chain ?_)
  | ((with_reducible show DE _ _ (Expr.BinOp (Expr.List _ _) Operator.Add _ _) _); refine DL.de (dl_op ?_))
  | ((with_reducible show DE _ _ (Expr.BinOp _ Operator.Add (Expr.List _ _) _) _); refine DL.de (dl_op ?_))
  | ((with_reducible show DE _ _ (Expr.BinOp _ _ _ _) _); refine de_op ?_)
  | ((with_reducible show DE _ _ (Expr.Dict [] [] _) _); refine de_dic0 ?_)
  | ((with_reducible show DE _ _ (Expr.List _ _) _); refine DL.de (dl_list ?_))
  | ((with_reducible show DE _ _ (Expr.Subscript _ (Expr.Slice _ _ (some _) _) _) _); refine de_revT ?_)
  | ((with_reducible show DE _ _ (Expr.Subscript (Expr.Name _ _) (Expr.Slice _ _ none _) _) _); first
    | refine de_slT (nm_dat (d := PyData.tuple _) (by walk_at "wa") (by walk_at "wv") (by rfl) ?_)
    | refine de_slS (nm_dat (d := PyData.str _) (by walk_at "wa") (by walk_at "wv") (by rfl) ?_)
    | refine DL.de (dl_slL (nm_dat (d := PyData.list _) (by walk_at "wa") (by walk_at "wv") (by rfl) ?_)))
  | ((with_reducible show DE _ _ (Expr.Subscript _ (Expr.Slice _ _ none _) _) _); refine de_slT ?_)
  | ((with_reducible show DE _ _ (Expr.Subscript (Expr.Name _ _) (Expr.Constant (Const.int _) _ _) _) _); refine de_drwIx (by walk_at "wa") (by walk_at "wv") (by rfl) (by decide) ?_)
  | ((with_reducible show DE _ _ (Expr.Subscript _ _ _) _); refine de_ix ?_)
  | ((with_reducible show DE _ _ (Expr.Tuple _ _ _) _); refine de_tuple ?_)
  | ((with_reducible show DE _ _ (Expr.BoolOp _ [_] _) _); refine de_one ?_)
  | ((with_reducible show DE _ _ (Expr.BoolOp BoolOp.And _ _) _); refine de_and ?_)
  | ((with_reducible show DE _ _ (Expr.BoolOp BoolOp.Or _ _) _); refine de_or ?_)
  | ((with_reducible show DE _ _ (Expr.UnaryOp UnaryOp.Not _ _) _); refine de_not ?_)
  | ((with_reducible show DE _ _ (Expr.UnaryOp UnaryOp.USub _ _) _); refine de_neg ?_)
  | ((with_reducible show DE _ _ (Expr.IfExp _ _ _ _) _); refine de_if ?_))
local macro_rules | `(tactic| walk_at "dop") => `(tactic| first
  | ((with_reducible show DOp _ (binaryOp Operator.Add) (PyData.int _) (PyData.int _) _); refine do_add ?_)
  | ((with_reducible show DOp _ (binaryOp Operator.Sub) (PyData.int _) (PyData.int _) _); refine do_sub ?_)
  | ((with_reducible show DOp _ (binaryOp Operator.Mult) (PyData.int _) (PyData.int _) _); first | refine do_mul ?_ (by first | exact Or.inl ⟨by decide, by decide⟩ | exact Or.inr ⟨by decide, by decide⟩) | refine do_mul ?_ ?_)
  | ((with_reducible show DOp _ (binaryOp Operator.FloorDiv) (PyData.int _) (PyData.int _) _); first | refine do_fdiv ?_ ⟨by first | decide | with_reducible assumption | omega, by first | decide | with_reducible assumption | omega⟩ | refine do_fdiv ?_ ?_)
  | ((with_reducible show DOp _ (binaryOp Operator.Mod) (PyData.int _) (PyData.int _) _); first | refine do_mod ?_ (by first | decide | with_reducible assumption | omega) | refine do_mod ?_ ?_)
  | ((with_reducible show DOp _ (binaryOp Operator.Pow) (PyData.int _) (PyData.int _) _); first | refine do_pow ?_ ⟨by decide, by decide, by decide⟩ | refine do_pow ?_ ?_)
  | ((with_reducible show DOp _ (compareOp CmpOp.Lt) (PyData.int _) (PyData.int _) _); refine do_lt ?_)
  | ((with_reducible show DOp _ (compareOp CmpOp.LtE) (PyData.int _) (PyData.int _) _); refine do_le ?_)
  | ((with_reducible show DOp _ (compareOp CmpOp.Gt) (PyData.int _) (PyData.int _) _); refine do_gt ?_)
  | ((with_reducible show DOp _ (compareOp CmpOp.GtE) (PyData.int _) (PyData.int _) _); refine do_ge ?_)
  | ((with_reducible show DOp _ (compareOp CmpOp.Eq) (PyData.int _) (PyData.int _) _); refine do_eqI ?_)
  | ((with_reducible show DOp _ (compareOp CmpOp.NotEq) (PyData.int _) (PyData.int _) _); refine do_neI ?_)
  | ((with_reducible show DOp _ (compareOp CmpOp.Eq) (PyData.str _) (PyData.str _) _); refine do_eqS ?_)
  | ((with_reducible show DOp _ (compareOp CmpOp.NotEq) (PyData.str _) (PyData.str _) _); refine do_neS ?_)
  | ((with_reducible show DOp _ (compareOp CmpOp.Eq) (PyData.bool _) (PyData.bool _) _); refine do_eqB ?_)
  | ((with_reducible show DOp _ (compareOp CmpOp.NotEq) (PyData.bool _) (PyData.bool _) _); refine do_neB ?_)
  | ((with_reducible show DOp _ (compareOp CmpOp.NotEq) (PyData.list _) (PyData.list []) _); refine do_neL0 (by walk_at "rm") ?_)
  | ((with_reducible show DOp _ (compareOp CmpOp.Eq) (PyData.list _) (PyData.list []) _); refine do_eqL0 (by walk_at "rm") ?_)
  | ((with_reducible show DOp _ (compareOp CmpOp.Eq) (PyData.tuple _) (PyData.tuple []) _); refine do_eqT0 (by walk_at "rm") ?_)
  | ((with_reducible show DOp _ (compareOp CmpOp.Is) _ PyData.none _); refine do_isN ?_)
  | ((with_reducible show DOp _ (compareOp CmpOp.IsNot) _ PyData.none _); refine do_notN ?_)
  | ((with_reducible show DOp _ (compareOp CmpOp.In) (PyData.str ⟨#[_]⟩) (PyData.str _) _); refine do_inS ?_)
  | ((with_reducible show DOp _ (compareOp CmpOp.NotIn) (PyData.str ⟨#[_]⟩) (PyData.str _) _); refine do_ninS ?_))
local macro_rules | `(tactic| walk_at "dca") => `(tactic| first
  | ((with_reducible show DCall _ (Value.builtin "len") [PyData.tuple _] _); refine dc_len (n := List.length _) ?_ rfl)
  | ((with_reducible show DCall _ (Value.builtin "len") [PyData.list _] _); refine dc_len (n := List.length _) ?_ rfl)
  | ((with_reducible show DCall _ (Value.builtin "len") [PyData.str _] _); refine dc_len ?_ ⟨rfl, ?_⟩)
  | ((with_reducible show DCall _ (Value.builtin "abs") _ _); refine dc_abs ?_)
  | ((with_reducible show DCall _ (Value.builtin "min") _ _); refine dc_min2 rfl ?_)
  | ((with_reducible show DCall _ (Value.type "int") [PyData.bool _] _); refine dc_intB ?_)
  | ((with_reducible show DCall _ (Value.type "tuple") [PyData.list _] _); refine dc_tupL ?_)
  | ((with_reducible show DCall _ (Value.type "tuple") [PyData.tuple _] _); refine dc_tupT ?_))
local macro_rules | `(tactic| walk_at "dix") => `(tactic| first
  | ((with_reducible show DIx _ _ (PyData.int 0) _); first | refine dix_t0 ?_ | refine dix_l0 ?_)
  | ((with_reducible show DIx _ _ (PyData.int 1) _); first | refine dix_t1 ?_ | refine dix_l1 ?_)
  | ((with_reducible show DIx _ _ (PyData.int 2) _); first | refine dix_t2 ?_ | refine dix_l2 ?_))
local macro_rules | `(tactic| walk_at "dt") => `(tactic| first
  | ((with_reducible show DT _ _ (Expr.BoolOp BoolOp.And _ _) _); refine DW.DW.dt (dw_and ?_))
  | ((with_reducible show DT _ _ (Expr.BoolOp BoolOp.Or _ _) _); refine DW.DW.dt (dw_or ?_))
  | ((with_reducible show DT _ _ (Expr.Compare _ [_] _ _) _); refine dt_cmp ?_)
  | ((with_reducible show DT _ _ (Expr.Compare _ [_, _] _ _) _); refine dt_chain ?_)
  | ((with_reducible show DT _ _ (Expr.UnaryOp UnaryOp.Not _ _) _); refine dt_not ?_)
  | refine dt_val ?_)
local macro_rules | `(tactic| walk_at "d1") => `(tactic| first
  | ((with_reducible show DE _ _ _ _); walk_at "de")
  | ((with_reducible show DT _ _ _ _); walk_at "dt")
  | ((with_reducible show DOp _ _ _ _ _); walk_at "dop")
  | ((with_reducible show DOpL _ (binaryOp Operator.Add) (PyData.list _) (PyData.list _) _); refine dol_cat ?_ ?_)
  | ((with_reducible show DCall _ _ _ _); walk_at "dca")
  | ((with_reducible show DIx _ _ _ _); walk_at "dix")
  | ((with_reducible show DW.DW _ _ (Expr.BoolOp BoolOp.And [_] _) _); refine dw_and1 ?_)
  | ((with_reducible show DW.DW _ _ (Expr.BoolOp BoolOp.Or [_] _) _); refine dw_or1 ?_)
  | ((with_reducible show DW.DW _ _ (Expr.BoolOp BoolOp.And _ _) _); refine dw_and ?_)
  | ((with_reducible show DW.DW _ _ (Expr.BoolOp BoolOp.Or _ _) _); refine dw_or ?_)
  | ((with_reducible show DAd _ _ [] _); refine dad_nil ?_)
  | ((with_reducible show DAd _ _ _ _); refine dad_cons ?_)
  | ((with_reducible show DAv _ _ [] _); refine dav_nil ?_)
  | ((with_reducible show DAv _ _ _ _); refine dav_cons ?_)
  | ((with_reducible show DO _ _ none _); refine do_none ?_)
  | ((with_reducible show DO _ _ _ _); refine do_some ?_)
  | ((with_reducible show ∃ dx dy, DatOf _ (EV.dat _) dx ∧ DatOf _ (EV.dat _) dy ∧ _); refine ⟨_, _, .dat, .dat, ?_⟩)
  | ((with_reducible show ∃ dx dy, DatOf _ (EV.dat _) dx ∧ (EV.dat _) = EV.dat dy ∧ _); refine ⟨_, _, .dat, rfl, ?_⟩)
  | ((with_reducible show ∃ dx dy, DatOf _ _ dx ∧ DatOf _ _ dy ∧ _); first | refine ⟨_, _, .own rfl, .dat, ?_⟩ | refine ⟨_, _, .dat, .own rfl, ?_⟩ | refine ⟨_, _, .own rfl, .own rfl, ?_⟩)
  | ((with_reducible show ∃ dx, DatOf _ (EV.dat _) dx ∧ _); refine ⟨_, .dat, ?_⟩)
  | ((with_reducible show ∃ dx, DatOf _ _ dx ∧ _); refine ⟨_, .own rfl, ?_⟩)
  | ((with_reducible show ∃ d, _ = _ ∧ _); refine ⟨_, rfl, ?_⟩)
  | ((with_reducible show ∃ av : AV, _ ∧ _); first | refine ⟨_, Or.inl ⟨rfl, rfl⟩, ?_⟩ | refine ⟨_, Or.inr ⟨_, rfl, rfl⟩, ?_⟩))
local macro_rules | `(tactic| walk_at "db") => `(tactic| first
  | refine ⟨fun _ => ?_, fun h => Bool.noConfusion h⟩ | refine ⟨fun h => Bool.noConfusion h, fun _ => ?_⟩)
local macro_rules | `(tactic| walk_at "dst") => `(tactic| first
  | ((with_reducible show DS _ _ (Stmt.If _ _ _ _) _ _ _ _); refine ds_if ?_)
  | ((with_reducible show DS _ _ (Stmt.Expr _ _) _ _ _ _); refine ds_expr ?_)
  | ((with_reducible show DS _ _ (Stmt.Pass _) _ _ _ _); refine ds_pass ?_)
  | ((with_reducible show DS _ _ (Stmt.Assign [Expr.Subscript (Expr.Name _ _) (Expr.Constant (Const.int _) _ _) _] _ _) _ _ _ _); refine ds_drwSet (by walk_at "wa") (by walk_at "wv") ?_)
  | ((with_reducible show DS _ _ (Stmt.Return (some (Expr.ListComp _ _ _ _)) _) _ _ _ _); refine ds_retL ?_)
  | ((with_reducible show DS _ _ (Stmt.Return (some (Expr.List _ _)) _) _ _ _ _); refine ds_retL (dl_list ?_))
  | ((with_reducible show DS _ _ (Stmt.Return (some (Expr.Name _ _)) _) _ _ _ _); first
    | refine ds_ret (nm_dat (by walk_at "wa") (by walk_at "wv") (by rfl) ?_)
    | refine ds_retO (nm_own (by walk_at "wa") (by walk_at "wv") (by rfl) ⟨_, _, rfl, rfl, ?_⟩)
    | refine ds_ret ?_)
  | ((with_reducible show DS _ _ (Stmt.Return (some _) _) _ _ _ _); refine ds_ret ?_)
  | ((with_reducible show DS _ _ (Stmt.Assign [Expr.Name _ _] _ _) _ _ _ _); (fail_if_success (with_reducible show DS _ _ (Stmt.Assign [Expr.Name _ _] (Expr.ListComp _ _ _ _) _) _ _ _ _)); (fail_if_success (with_reducible show DS _ _ (Stmt.Assign [Expr.Name _ _] (Expr.List _ _) _) _ _ _ _)); refine st_set (by walk_at "wa") (by walk_at "wa") (by walk_at "wa") ?_))
local macro_rules | `(tactic| walk_at "e") => `(tactic| repeat (first | walk_at "d1" | walk_at "db"))
local macro_rules | `(tactic| walk_at "d") => `(tactic| repeat (first | walk_at "d1" | walk_at "db" | ((with_reducible show DS _ _ _ _ _ _ _); walk_at "dst") | ((with_reducible show DB _ _ [] _ _ _ _); refine db_nil ?_) | ((with_reducible show DB _ _ _ _ _ _ _); refine db_cons ?_)))
local macro_rules | `(tactic| walk_at "ds") => `(tactic| refine st_set (by walk_at "wa") (by walk_at "wa") (by walk_at "wa") ?_)
local macro_rules | `(tactic| walk_at "dsl") => `(tactic| refine st_setL (by walk_at "wa") (by walk_at "wa") (by walk_at "wa") ?_)
local macro_rules | `(tactic| walk_at "dz") => `(tactic| dsimp (config := { proj := false }) only [List.set, List.map, List.replicate, List.cons_append, List.nil_append, AV.sv])
section
variable {P : Program} {w : World} {K : PySem.W.Frag} {mg : Str → Option Value} {base : Heap}
def lookD (d : PyData) : PyData := if wf d = true then .list [.int (sz d), .int (ht d)] else .none
theorem lookD_t {d : PyData} (h : wf d = true) : lookD d = .list [.int (sz d), .int (ht d)] := if_pos h
theorem lookD_f {d : PyData} (h : wf d = false) : lookD d = .none := if_neg (by rw [h]; exact fun z => nomatch z)
def fs_L_look (n : Nat) : FS := fun avs R => ∃ d, avs = [.dat d] ∧ short d = true ∧ d.depth < n ∧ ∀ rv : RV, rv.data = lookD d → R rv
theorem none_L_look {avs : List AV} {R : RV → Prop} (h : fs_L_look 0 avs R) : False := by
  obtain ⟨d, _, _, h, _⟩ := h
  omega
theorem node_named (x : Str) (ds : List PyData) : isNode (.tuple (.str x :: ds)) = named x ds.length := by
  rw [isNode, named]
  by_cases h : x = "->"
  · rw [if_pos h, if_pos h]; refine decide_eq_decide.mpr ?_; omega
  · rw [if_neg h, if_neg h, show decide (ds.length ≤ 3) = decide ((ds.length : Int) ≤ 3) from decide_eq_decide.mpr (by omega)]
theorem depth_mem : ∀ {ds : List PyData} {d : PyData}, d ∈ ds → d.depth ≤ PyData.depthAll ds
  | [], _, h => nomatch h
  | e :: ds, d, m => by
    rw [PyData.depthAll]
    rcases List.mem_cons.mp m with rfl | m
    · omega
    · have := depth_mem m; omega
theorem lookD_lay (d : PyData) : (lookD d).canLay0 = true ∧ (lookD d).depth ≤ 1 := by
  unfold lookD
  split
  · exact ⟨rfl, Nat.le_refl 1⟩
  · exact ⟨rfl, Nat.zero_le 1⟩
theorem rows_shaped (ds : List PyData) : SeqAt.shaped (.list (ds.map lookD)) = true := by
  have h : PyData.canLayAll0 (ds.map lookD) = true ∧ PyData.depthAll (ds.map lookD) ≤ 1 := by
    induction ds with
    | nil => exact ⟨rfl, by decide⟩
    | cons d ds ih =>
      rw [List.map_cons, PyData.canLayAll0, PyData.depthAll, (lookD_lay d).1, ih.1]
      have := (lookD_lay d).2
      exact ⟨rfl, by omega⟩
  unfold SeqAt.shaped
  rw [PyData.canLay0, h.1, PyData.depth, decide_eq_true (by omega)]
  rfl
theorem rows_none (ds : List PyData) : ((ds.map lookD).any fun z => PyData.eqv z .none) = !wfs ds := by
  induction ds with
  | nil => rw [wfs]; rfl
  | cons d ds ih =>
    rw [List.map_cons, List.any_cons, ih, wfs]
    cases h : wf d with
    | true => rw [lookD_t h]; rfl
    | false => rw [lookD_f h]; rfl
theorem rows_wf {ds : List PyData} (h : wfs ds = true) : ds.map lookD = ds.map fun d => .list [.int (sz d), .int (ht d)] :=
  List.map_congr_left fun d hd => lookD_t (wfs_mem h hd)
theorem hts_max (ds : List PyData) (m : Int) (h1 : m ∈ (0 : Int) :: ds.map ht) (h2 : ∀ n ∈ (0 : Int) :: ds.map ht, n ≤ m) : m = hts ds := by
  have h3 : hts ds ≤ m := by
    have h0 : 0 ≤ m := h2 0 (List.mem_cons_self ..)
    have h2' : ∀ n ∈ ds.map ht, n ≤ m := fun n hn => h2 n (List.mem_cons_of_mem _ hn)
    clear h1 h2
    induction ds with
    | nil => rw [hts]; exact h0
    | cons d ds ih =>
      rw [hts]
      have := h2' (ht d) (by simp)
      have := ih (fun n hn => h2' n (by rw [List.map_cons]; exact List.mem_cons_of_mem _ hn))
      omega
  rcases List.mem_cons.mp h1 with rfl | h1
  · have := hts_pos ds; omega
  · obtain ⟨d, hd, rfl⟩ := List.mem_map.mp h1
    have := hts_mem hd
    omega
theorem ok_L_look {b : Nat} (T : Tp K mg) (G_L_named : Fn P w K mg base b "_law_named" fs_L_named) (n : Nat) : Fn P w K mg base (b + n) "_law_look" (fs_L_look n) := by
  induction n with
  | zero => exact T.d_L_look.none (fun avs R h => none_L_look h)
  | succ n F_L_look =>
  have F_L_named := G_L_named.mono (Nat.le_add_right b n)
  refine T.d_L_look.ok sc_L_look (fun avs R h => ?_) (fun f cdv A outer s H E dr avs R hr hgd h => ?_)
  · obtain ⟨d, rfl, _⟩ := h
    rfl
  obtain ⟨d, rfl, hs, hn, hR⟩ := h
  have T' : Tp (fcx P w K mg base n_L_look "_law_look" s_L_look f cdv A outer s H E).K (fcx P w K mg base n_L_look "_law_look" s_L_look f cdv A outer s H E).mg := T
  have v0 : (fcx P w K mg base n_L_look "_law_look" s_L_look f cdv A outer s H E).N[0]? = some ("_law_value" : Str) := rfl
  have w0 : Vis (fcx P w K mg base n_L_look "_law_look" s_L_look f cdv A outer s H E).env.scope "_law_value" := by walk_at "dv"
  have l0 : Loc (fcx P w K mg base n_L_look "_law_look" s_L_look f cdv A outer s H E).env.scope "_law_value" := by walk_at "dl"
  have v1 : (fcx P w K mg base n_L_look "_law_look" s_L_look f cdv A outer s H E).N[1]? = some ("_law_rows" : Str) := rfl
  have w1 : Vis (fcx P w K mg base n_L_look "_law_look" s_L_look f cdv A outer s H E).env.scope "_law_rows" := by walk_at "dv"
  have l1 : Loc (fcx P w K mg base n_L_look "_law_look" s_L_look f cdv A outer s H E).env.scope "_law_rows" := by walk_at "dl"
  have v2 : (fcx P w K mg base n_L_look "_law_look" s_L_look f cdv A outer s H E).N[2]? = some ("_law_part" : Str) := rfl
  have v3 : (fcx P w K mg base n_L_look "_law_look" s_L_look f cdv A outer s H E).N[3]? = some ("_law_row" : Str) := rfl
  have nd : (fcx P w K mg base n_L_look "_law_look" s_L_look f cdv A outer s H E).N.Nodup := sc_L_look.nd
  have c_L_look := Fn.cal (X := (fcx P w K mg base n_L_look "_law_look" s_L_look f cdv A outer s H E)) F_L_look hr hgd
  have c_L_named := Fn.cal (X := (fcx P w K mg base n_L_look "_law_look" s_L_look f cdv A outer s H E)) F_L_named hr hgd
  have b_bool := T'.b_bool
  have b_int := T'.b_int
  have b_isinstance := T'.b_isinstance
  have b_len := T'.b_len
  have b_max := T'.b_max
  have b_str := T'.b_str
  have b_sum := T'.b_sum
  have b_tuple := T'.b_tuple
  have rm : Rm ⟨(fcx P w K mg base n_L_look "_law_look" s_L_look f cdv A outer s H E), H, dr⟩ := rm_of hr
  have gd : Gd ⟨(fcx P w K mg base n_L_look "_law_look" s_L_look f cdv A outer s H E), H, dr⟩ := hgd
  rw [show List.replicate (n_L_look.length - [("_law_value" : Str)].length) SV.no = [.no, .no, .no] from rfl]
  walk_at "dz"
  cases d with
  | int i =>
    walk_at "d"
    refine ⟨fun h => ?_, fun h => ?_⟩
    · walk_at "d"
      refine ⟨fun h2 => ?_, fun h2 => ?_⟩
      · walk_at "d"
        refine hR _ ?_
        rw [lookD_t (by rw [wf, h, h2]; rfl), sz_int, ht_int]
        try rfl
      · walk_at "d"
        refine hR _ ?_
        rw [lookD_f (by rw [wf, h, h2]; rfl)]
        try rfl
    · walk_at "d"
      refine hR _ ?_
      rw [lookD_f (by rw [wf, h]; rfl)]
      try rfl
  | tuple ds =>
    cases ds with
    | nil =>
      walk_at "d"
      exact hR _ rfl
    | cons d ds =>
      cases d with
      | str x =>
        have hx : x.length ≤ 1000 := by
          rw [short, shorts, short, Bool.and_eq_true] at hs
          exact dTr hs.1
        have hsd : shorts ds = true := by
          rw [short, shorts, Bool.and_eq_true] at hs
          exact hs.2
        rw [PyData.depth, PyData.depthAll] at hn
        walk_at "d"
        refine ⟨x, _, rfl, hx, _, rfl, ?_⟩
        have hnm : named x (((PyData.str x :: ds).length : Nat) - 1 : Int) = isNode (.tuple (.str x :: ds)) := by
          rw [node_named, List.length_cons]
          refine congrArg _ ?_
          omega
        rw [hnm]
        refine ⟨fun h => ?_, fun h => ?_⟩
        · walk_at "d"
          refine hR _ ?_
          rw [lookD_f (by rw [wf, nT h]; rfl)]
          try rfl
        have hnd := nF h
        have hl := node_len hnd
        walk_at "d"
        refine st_lcF v1 v2 nd (lch_map id lookD (di_tup ?_))
        walk_at "d"
        rw [cut_1]
        refine ⟨ds, (List.map_id _).symm, rfl, by unfold sizeLine; omega, fun z hz s1 H1 C1 cl fp Hx => ?_, ?_⟩
        · walk_at "d"
          refine ⟨z, rfl, shorts_mem hsd hz, ?_, fun rv hrv => ?_⟩
          · have := depth_mem hz; omega
          · exact ⟨congrArg _ hrv, rfl⟩
        walk_at "dz"
        walk_at "d"
        refine do_inL rm (by decide) (rows_shaped ds) ?_
        rw [rows_none]
        walk_at "d"
        refine ⟨fun h => ?_, fun h => ?_⟩
        · walk_at "d"
          refine hR _ ?_
          rw [lookD_f (by rw [wf, nT h, Bool.and_false])]
          try rfl
        have hwf := nF h
        have hw : wf (.tuple (.str x :: ds)) = true := by rw [wf, hnd, hwf]; rfl
        rw [lookD_t hw, sz, ht] at hR
        rw [rows_wf hwf]
        walk_at "d"
        refine DL.de (lc_mapA v3 nd rfl (fun d => .list [.int (sz d), .int (ht d)]) (fun d => .int (sz d)) (di_lst ?_))
        walk_at "d"
        refine ⟨rfl, by rw [List.length_map]; unfold sizeLine; omega, fun z hz s1 H1 C1 cl fp Hx => ?_, ?_⟩
        · walk_at "d"
          exact ⟨rfl, rfl⟩
        walk_at "d"
        refine dc_sumA rfl ?_
        walk_at "d"
        refine DL.de (lc_mapA v3 nd rfl (fun d => .list [.int (sz d), .int (ht d)]) (fun d => .int (ht d)) (di_lst ?_))
        walk_at "d"
        refine ⟨rfl, by rw [List.length_map]; unfold sizeLine; omega, fun z hz s1 H1 C1 cl fp Hx => ?_, ?_⟩
        · walk_at "d"
          exact ⟨rfl, rfl⟩
        walk_at "d"
        · rw [show ([PyData.int 0] ++ ds.map fun d => PyData.int (ht d)) = ((0 : Int) :: ds.map ht).map .int from by simp]
          refine dc_max rfl (by simp) fun m hm1 hm2 => ?_
          walk_at "d"
          refine hR _ ?_
          rw [hts_max ds m hm1 hm2, szs_sum]
          try rfl
        · rw [List.length_map]; unfold sizeLine; simp; omega
      | _ =>
        walk_at "d"
        exact hR _ rfl
  | _ =>
    walk_at "d"
    exact hR _ rfl
end
end K01
namespace K01
open PySem L2 DW PyProof.Rows
local macro_rules | `(tactic| walk_at "dv") => `(tactic| first | exact Or.inl rfl | exact Or.inr (Or.inl rfl) | exact Or.inr (Or.inr rfl))
local macro_rules | `(tactic| walk_at "dl") => `(tactic| first | exact Or.inl rfl | exact Or.inr rfl)
local macro_rules | `(tactic| walk_at "wv") => `(tactic| first | with_reducible assumption | walk_at "dv")
local macro_rules | `(tactic| walk_at "wa") => `(tactic| with_reducible assumption)
local macro_rules | `(tactic| walk_at "rm") => `(tactic| first | with_reducible assumption | (apply Rm.blk; with_reducible assumption))
local macro_rules | `(tactic| walk_at "dn") => `(tactic| first
  | refine nm_dat (by walk_at "wa") (by walk_at "wv") (by rfl) ?_ | refine nm_own (by walk_at "wa") (by walk_at "wv") (by rfl) ?_ | refine nm_drw (by walk_at "wa") (by walk_at "wv") (by rfl) ?_ | refine nm_scr (by walk_at "wa") (by walk_at "wv") (by rfl) ?_
  | refine de_globI (by walk_at "wa") rfl ?_ | refine de_globS (by walk_at "wa") rfl ?_)
local macro_rules | `(tactic| walk_at "dci") => `(tactic| first
  | ((with_reducible show DE _ _ (Expr.Call _ [_, Expr.Name "int" _] _ _) _); refine de_is kInt bt_int (by walk_at "wa") (by walk_at "wa") ?_)
  | ((with_reducible show DE _ _ (Expr.Call _ [_, Expr.Name "bool" _] _ _) _); refine de_is kBool bt_bool (by walk_at "wa") (by walk_at "wa") ?_)
  | ((with_reducible show DE _ _ (Expr.Call _ [_, Expr.Name "str" _] _ _) _); refine de_is kStr bt_str (by walk_at "wa") (by walk_at "wa") ?_)
  | ((with_reducible show DE _ _ (Expr.Call _ [_, Expr.Name "tuple" _] _ _) _); refine de_is kTup bt_tuple (by walk_at "wa") (by walk_at "wa") ?_)
  | ((with_reducible show DE _ _ (Expr.Call _ [_, Expr.Name "list" _] _ _) _); refine de_is kLst bt_list (by walk_at "wa") (by walk_at "wa") ?_)
  | ((with_reducible show DE _ _ (Expr.Call _ [_, Expr.Tuple [Expr.Name "tuple" _, Expr.Name "list" _] _ _] _ _) _); refine de_is2 kTup kLst bt_tuple bt_list (by walk_at "wa") (by walk_at "wa") (by walk_at "wa") ?_)
  | ((with_reducible show DE _ _ (Expr.Call _ [_, Expr.Tuple [Expr.Name "int" _, Expr.Name "tuple" _] _ _] _ _) _); refine de_is2 kInt kTup bt_int bt_tuple (by walk_at "wa") (by walk_at "wa") (by walk_at "wa") ?_))
local macro_rules | `(tactic| walk_at "dc") => `(tactic| first
  | ((with_reducible show DE _ _ (Expr.Call (Expr.Name "isinstance" _) _ _ _) _); walk_at "dci")
  | ((with_reducible show DE _ _ (Expr.Call (Expr.Name "len" _) [Expr.Name _ _] _ _) _); refine len_scr (by walk_at "wa") (by walk_at "wv") (by rfl) (by walk_at "wa") ?_)
  | ((with_reducible show DE _ _ (Expr.Call (Expr.Name "len" _) _ _ _) _); refine de_b1 bb_len (by walk_at "wa") ?_)
  | ((with_reducible show DE _ _ (Expr.Call (Expr.Name "abs" _) _ _ _) _); refine de_b1 bb_abs (by walk_at "wa") ?_)
  | ((with_reducible show DE _ _ (Expr.Call (Expr.Name "repr" _) _ _ _) _); refine de_b1 bb_repr (by walk_at "wa") ?_)
  | ((with_reducible show DE _ _ (Expr.Call (Expr.Name "all" _) _ _ _) _); refine de_b1 bb_all (by walk_at "wa") ?_)
  | ((with_reducible show DE _ _ (Expr.Call (Expr.Name "any" _) _ _ _) _); refine de_b1 bb_any (by walk_at "wa") ?_)
  | ((with_reducible show DE _ _ (Expr.Call (Expr.Name "sum" _) _ _ _) _); refine de_b1 bb_sum (by walk_at "wa") ?_)
  | ((with_reducible show DE _ _ (Expr.Call (Expr.Name "max" _) _ _ _) _); refine de_b1 bb_max (by walk_at "wa") ?_)
  | ((with_reducible show DE _ _ (Expr.Call (Expr.Name "int" _) _ _ _) _); refine de_t1 bt_int (by walk_at "wa") ?_)
  | ((with_reducible show DE _ _ (Expr.Call (Expr.Name "tuple" _) _ _ _) _); refine de_t1 bt_tuple (by walk_at "wa") ?_)
  | ((with_reducible show DE _ _ (Expr.Call (Expr.Name "min" _) _ _ _) _); refine de_b2 bb_min (by walk_at "wa") ?_)
  | ((with_reducible show DE ⟨blkX _ _ _ _ _ _ _, _, _⟩ _ _ _); refine de_fB (by walk_at "wa") ?_)
  | refine de_f (by walk_at "wa") ?_)
local macro_rules | `(tactic| walk_at "de") => `(tactic| first
  | ((with_reducible show DE _ _ (Expr.Name _ _) _); walk_at "dn")
  | ((with_reducible show DE _ _ (Expr.Call (Expr.Name _ _) _ _ _) _); walk_at "dc")
  | ((with_reducible show DE _ _ (Expr.Constant (Const.int _) _ _) _); refine de_int ?_)
  | ((with_reducible show DE _ _ (Expr.Constant (Const.str _) _ _) _); refine de_str ?_)
  | ((with_reducible show DE _ _ (Expr.Constant (Const.bool _) _ _) _); refine de_bl ?_)
  | ((with_reducible show DE _ _ (Expr.Constant Const.none _ _) _); refine de_non ?_)
  | ((with_reducible show DE _ _ (Expr.Compare _ [_] _ _) _); refine de_cmp ?_)
  | ((with_reducible show DE _ _ (Expr.Compare _ [_, _] _ _) _); refine de_chain ?_)
  | ((with_reducible show DE _ _ (Expr.BinOp (Expr.List _ _) Operator.Add _ _) _); refine DL.de (dl_op ?_))
  | ((with_reducible show DE _ _ (Expr.BinOp _ Operator.Add (Expr.List _ _) _) _); refine DL.de (dl_op ?_))
  | ((with_reducible show DE _ _ (Expr.BinOp _ _ _ _) _); refine de_op ?_)
  | ((with_reducible show DE _ _ (Expr.Dict [] [] _) _); refine de_dic0 ?_)
  | ((with_reducible show DE _ _ (Expr.List _ _) _); refine DL.de (dl_list ?_))
  | ((with_reducible show DE _ _ (Expr.Subscript _ (Expr.Slice _ _ (some _) _) _) _); refine de_revT ?_)
  | ((with_reducible show DE _ _ (Expr.Subscript (Expr.Name _ _) (Expr.Slice _ _ none _) _) _); first
    | refine de_slT (nm_dat (d := PyData.tuple _) (by walk_at "wa") (by walk_at "wv") (by rfl) ?_)
    | refine de_slS (nm_dat (d := PyData.str _) (by walk_at "wa") (by walk_at "wv") (by rfl) ?_)
    | refine DL.de (dl_slL (nm_dat (d := PyData.list _) (by walk_at "wa") (by walk_at "wv") (by rfl) ?_)))
  | ((with_reducible show DE _ _ (Expr.Subscript _ (Expr.Slice _ _ none _) _) _); refine de_slT ?_)
  | ((with_reducible show DE _ _ (Expr.Subscript (Expr.Name _ _) (Expr.Constant (Const.int _) _ _) _) _); refine de_drwIx (by walk_at "wa") (by walk_at "wv") (by rfl) (by decide) ?_)
  | ((with_reducible show DE _ _ (Expr.Subscript _ _ _) _); refine de_ix ?_)
  | ((with_reducible show DE _ _ (Expr.Tuple _ _ _) _); refine de_tuple ?_)
  | ((with_reducible show DE _ _ (Expr.BoolOp _ [_] _) _); refine de_one ?_)
  | ((with_reducible show DE _ _ (Expr.BoolOp BoolOp.And _ _) _); refine de_and ?_)
  | ((with_reducible show DE _ _ (Expr.BoolOp BoolOp.Or _ _) _); refine de_or ?_)
  | ((with_reducible show DE _ _ (Expr.UnaryOp UnaryOp.Not _ _) _); refine de_not ?_)
  | ((with_reducible show DE _ _ (Expr.UnaryOp UnaryOp.USub _ _) _); refine de_neg ?_)
  | ((with_reducible show DE _ _ (Expr.IfExp _ _ _ _) _); refine de_if ?_))
local macro_rules | `(tactic| walk_at "dop") => `(tactic| first
  | ((with_reducible show DOp _ (binaryOp Operator.Add) (PyData.int _) (PyData.int _) _); refine do_add ?_)
  | ((with_reducible show DOp _ (binaryOp Operator.Sub) (PyData.int _) (PyData.int _) _); refine do_sub ?_)
  | ((with_reducible show DOp _ (binaryOp Operator.Mult) (PyData.int _) (PyData.int _) _); first | refine do_mul ?_ (by first | exact Or.inl ⟨by decide, by decide⟩ | exact Or.inr ⟨by decide, by decide⟩) | refine do_mul ?_ ?_)
  | ((with_reducible show DOp _ (binaryOp Operator.FloorDiv) (PyData.int _) (PyData.int _) _); first | refine do_fdiv ?_ ⟨by first | decide | with_reducible assumption | omega, by first | decide | with_reducible assumption | omega⟩ | refine do_fdiv ?_ ?_)
  | ((with_reducible show DOp _ (binaryOp Operator.Mod) (PyData.int _) (PyData.int _) _); first | refine do_mod ?_ (by first | decide | with_reducible assumption | omega) | refine do_mod ?_ ?_)
  | ((with_reducible show DOp _ (binaryOp Operator.Pow) (PyData.int _) (PyData.int _) _); first | refine do_pow ?_ ⟨by decide, by decide, by decide⟩ | refine do_pow ?_ ?_)
  | ((with_reducible show DOp _ (compareOp CmpOp.Lt) (PyData.int _) (PyData.int _) _); refine do_lt ?_)
  | ((with_reducible show DOp _ (compareOp CmpOp.LtE) (PyData.int _) (PyData.int _) _); refine do_le ?_)
  | ((with_reducible show DOp _ (compareOp CmpOp.Gt) (PyData.int _) (PyData.int _) _); refine do_gt ?_)
  | ((with_reducible show DOp _ (compareOp CmpOp.GtE) (PyData.int _) (PyData.int _) _); refine do_ge ?_)
  | ((with_reducible show DOp _ (compareOp CmpOp.Eq) (PyData.int _) (PyData.int _) _); refine do_eqI ?_)
  | ((with_reducible show DOp _ (compareOp CmpOp.NotEq) (PyData.int _) (PyData.int _) _); refine do_neI ?_)
  | ((with_reducible show DOp _ (compareOp CmpOp.Eq) (PyData.str _) (PyData.str _) _); refine do_eqS ?_)
  | ((with_reducible show DOp _ (compareOp CmpOp.NotEq) (PyData.str _) (PyData.str _) _); refine do_neS ?_)
  | ((with_reducible show DOp _ (compareOp CmpOp.Eq) (PyData.bool _) (PyData.bool _) _); refine do_eqB ?_)
  | ((with_reducible show DOp _ (compareOp CmpOp.NotEq) (PyData.bool _) (PyData.bool _) _); refine do_neB ?_)
  | ((with_reducible show DOp _ (compareOp CmpOp.NotEq) (PyData.list _) (PyData.list []) _); refine do_neL0 (by walk_at "rm") ?_)
  | ((with_reducible show DOp _ (compareOp CmpOp.Eq) (PyData.list _) (PyData.list []) _); refine do_eqL0 (by walk_at "rm") ?_)
  | ((with_reducible show DOp _ (compareOp CmpOp.Eq) (PyData.tuple _) (PyData.tuple []) _); refine do_eqT0 (by walk_at "rm") ?_)
  | ((with_reducible show DOp _ (compareOp CmpOp.Is) _ PyData.none _); refine do_isN ?_)
  | ((with_reducible show DOp _ (compareOp CmpOp.IsNot) _ PyData.none _); refine do_notN ?_)
  | ((with_reducible show DOp _ (compareOp CmpOp.In) (PyData.str ⟨#[_]⟩) (PyData.str _) _); refine do_inS ?_)
  | ((with_reducible show DOp _ (compareOp CmpOp.NotIn) (PyData.str ⟨#[_]⟩) (PyData.str _) _); refine do_ninS ?_))
local macro_rules | `(tactic| walk_at "dca") => `(tactic| first
  | ((with_reducible show DCall _ (Value.builtin "len") [PyData.tuple _] _); refine dc_len (n := List.length _) ?_ rfl)
  | ((with_reducible show DCall _ (Value.builtin "len") [PyData.list _] _); refine dc_len (n := List.length _) ?_ rfl)
  | ((with_reducible show DCall _ (Value.builtin "len") [PyData.str _] _); refine dc_len ?_ ⟨rfl, ?_⟩)
  | ((with_reducible show DCall _ (Value.builtin "abs") _ _); refine dc_abs ?_)
  | ((with_reducible show DCall _ (Value.builtin "min") _ _); refine dc_min2 rfl ?_)
  | ((with_reducible show DCall _ (Value.type "int") [PyData.bool _] _); refine dc_intB ?_)
  | ((with_reducible show DCall _ (Value.type "tuple") [PyData.list _] _); refine dc_tupL ?_)
  | ((with_reducible show DCall _ (Value.type "tuple") [PyData.tuple _] _); refine dc_tupT ?_))
local macro_rules | `(tactic| walk_at "dix") => `(tactic| first
  | ((with_reducible show DIx _ _ (PyData.int 0) _); first | refine dix_t0 ?_ | refine dix_l0 ?_)
  | ((with_reducible show DIx _ _ (PyData.int 1) _); first | refine dix_t1 ?_ | refine dix_l1 ?_)
  | ((with_reducible show DIx _ _ (PyData.int 2) _); first | refine dix_t2 ?_ | refine dix_l2 ?_))
local macro_rules | `(tactic| walk_at "dt") => `(tactic| first
  | ((with_reducible show DT _ _ (Expr.BoolOp BoolOp.And _ _) _); refine DW.DW.dt (dw_and ?_))
  | ((with_reducible show DT _ _ (Expr.BoolOp BoolOp.Or _ _) _); refine DW.DW.dt (dw_or ?_))
  | ((with_reducible show DT _ _ (Expr.Compare _ [_] _ _) _); refine dt_cmp ?_)
  | ((with_reducible show DT _ _ (Expr.Compare _ [_, _] _ _) _); refine dt_chain ?_)
  | ((with_reducible show DT _ _ (Expr.UnaryOp UnaryOp.Not _ _) _); refine dt_not ?_)
  | refine dt_val ?_)
local macro_rules | `(tactic| walk_at "d1") => `(tactic| first
  | ((with_reducible show DE _ _ _ _); walk_at "de")
  | ((with_reducible show DT _ _ _ _); walk_at "dt")
  | ((with_reducible show DOp _ _ _ _ _); walk_at "dop")
  | ((with_reducible show DOpL _ (binaryOp Operator.Add) (PyData.list _) (PyData.list _) _); refine dol_cat ?_ ?_)
  | ((with_reducible show DCall _ _ _ _); walk_at "dca")
  | ((with_reducible show DIx _ _ _ _); walk_at "dix")
  | ((with_reducible show DW.DW _ _ (Expr.BoolOp BoolOp.And [_] _) _); refine dw_and1 ?_)
  | ((with_reducible show DW.DW _ _ (Expr.BoolOp BoolOp.Or [_] _) _); refine dw_or1 ?_)
  | ((with_reducible show DW.DW _ _ (Expr.BoolOp BoolOp.And _ _) _); refine dw_and ?_)
  | ((with_reducible show DW.DW _ _ (Expr.BoolOp BoolOp.Or _ _) _); refine dw_or ?_)
  | ((with_reducible show DAd _ _ [] _); refine dad_nil ?_)
  | ((with_reducible show DAd _ _ _ _); refine dad_cons ?_)
  | ((with_reducible show DAv _ _ [] _); refine dav_nil ?_)
  | ((with_reducible show DAv _ _ _ _); refine dav_cons ?_)
  | ((with_reducible show DO _ _ none _); refine do_none ?_)
  | ((with_reducible show DO _ _ _ _); refine do_some ?_)
  | ((with_reducible show ∃ dx dy, DatOf _ (EV.dat _) dx ∧ DatOf _ (EV.dat _) dy ∧ _); refine ⟨_, _, .dat, .dat, ?_⟩)
  | ((with_reducible show ∃ dx dy, DatOf _ (EV.dat _) dx ∧ (EV.dat _) = EV.dat dy ∧ _); refine ⟨_, _, .dat, rfl, ?_⟩)
  | ((with_reducible show ∃ dx dy, DatOf _ _ dx ∧ DatOf _ _ dy ∧ _); first | refine ⟨_, _, .own rfl, .dat, ?_⟩ | refine ⟨_, _, .dat, .own rfl, ?_⟩ | refine ⟨_, _, .own rfl, .own rfl, ?_⟩)
  | ((with_reducible show ∃ dx, DatOf _ (EV.dat _) dx ∧ _); refine ⟨_, .dat, ?_⟩)
  | ((with_reducible show ∃ dx, DatOf _ _ dx ∧ _); refine ⟨_, .own rfl, ?_⟩)
  | ((with_reducible show ∃ d, _ = _ ∧ _); refine ⟨_, rfl, ?_⟩)
  | ((with_reducible show ∃ av : AV, _ ∧ _); first | refine ⟨_, Or.inl ⟨rfl, rfl⟩, ?_⟩ | refine ⟨_, Or.inr ⟨_, rfl, rfl⟩, ?_⟩))
local macro_rules | `(tactic| walk_at "db") => `(tactic| first
  | refine ⟨fun _ => ?_, fun h => Bool.noConfusion h⟩ | refine ⟨fun h => Bool.noConfusion h, fun _ => ?_⟩)
local macro_rules | `(tactic| walk_at "dst") => `(tactic| first
  | ((with_reducible show DS _ _ (Stmt.If _ _ _ _) _ _ _ _); refine ds_if ?_)
  | ((with_reducible show DS _ _ (Stmt.Expr _ _) _ _ _ _); refine ds_expr ?_)
  | ((with_reducible show DS _ _ (Stmt.Pass _) _ _ _ _); refine ds_pass ?_)
  | ((with_reducible show DS _ _ (Stmt.Assign [Expr.Subscript (Expr.Name _ _) (Expr.Constant (Const.int _) _ _) _] _ _) _ _ _ _); refine ds_drwSet (by walk_at "wa") (by walk_at "wv") ?_)
  | ((with_reducible show DS _ _ (Stmt.Return (some (Expr.ListComp _ _ _ _)) _) _ _ _ _); refine ds_retL ?_)
  | ((with_reducible show DS _ _ (Stmt.Return (some (Expr.List _ _)) _) _ _ _ _); refine ds_retL (dl_list ?_))
  | ((with_reducible show DS _ _ (Stmt.Return (some (Expr.Name _ _)) _) _ _ _ _); first
    | refine ds_ret (nm_dat (by walk_at "wa") (by walk_at "wv") (by rfl) ?_)
    | refine ds_retO (nm_own (by walk_at "wa") (by walk_at "wv") (by rfl) ⟨_, _, rfl, rfl, ?_⟩)
    | refine ds_ret ?_)
  | ((with_reducible show DS _ _ (Stmt.Return (some _) _) _ _ _ _); refine ds_ret ?_)
  | ((with_reducible show DS _ _ (Stmt.Assign [Expr.Name _ _] _ _) _ _ _ _); (fail_if_success (with_reducible show DS _ _ (Stmt.Assign [Expr.Name _ _] (Expr.ListComp _ _ _ _) _) _ _ _ _)); (fail_if_success (with_reducible show DS _ _ (Stmt.Assign [Expr.Name _ _] (Expr.List _ _) _) _ _ _ _)); refine st_set (by walk_at "wa") (by walk_at "wa") (by walk_at "wa") ?_))
local macro_rules | `(tactic| walk_at "e") => `(tactic| repeat (first | walk_at "d1" | walk_at "db"))
local macro_rules | `(tactic| walk_at "d") => `(tactic| repeat (first | walk_at "d1" | walk_at "db" | ((with_reducible show DS _ _ _ _ _ _ _); walk_at "dst") | ((with_reducible show DB _ _ [] _ _ _ _); refine db_nil ?_) | ((with_reducible show DB _ _ _ _ _ _ _); refine db_cons ?_)))
local macro_rules | `(tactic| walk_at "ds") => `(tactic| refine st_set (by walk_at "wa") (by walk_at "wa") (by walk_at "wa") ?_)
local macro_rules | `(tactic| walk_at "dsl") => `(tactic| refine st_setL (by walk_at "wa") (by walk_at "wa") (by walk_at "wa") ?_)
local macro_rules | `(tactic| walk_at "dz") => `(tactic| dsimp (config := { proj := false }) only [List.set, List.map, List.replicate, List.cons_append, List.nil_append, AV.sv])
section
variable {P : Program} {w : World} {K : PySem.W.Frag} {mg : Str → Option Value} {base : Heap}
def fs_variables_of : FS := fun avs R => ∃ d, avs = [.dat d] ∧ wf d = true ∧ sz d ≤ 200 ∧ R (.dat (.tuple ((nub (occ d)).map .int)))
theorem ok_variables_of {k : Nat} (T : Tp K mg) (F_occurrences : Fn P w K mg base k "occurrences" fs_occurrences) : Fn P w K mg base (k + 1) "variables_of" fs_variables_of := by
  refine T.d_variables_of.ok sc_variables_of (fun avs R h => ?_) (fun f cdv A outer s H E dr avs R hr hgd h => ?_)
  · obtain ⟨d, rfl, _⟩ := h
    rfl
  obtain ⟨d, rfl, hw, hz, hR⟩ := h
  have T' : Tp (fcx P w K mg base n_variables_of "variables_of" s_variables_of f cdv A outer s H E).K (fcx P w K mg base n_variables_of "variables_of" s_variables_of f cdv A outer s H E).mg := T
  have v0 : (fcx P w K mg base n_variables_of "variables_of" s_variables_of f cdv A outer s H E).N[0]? = some ("shape" : Str) := rfl
  have w0 : Vis (fcx P w K mg base n_variables_of "variables_of" s_variables_of f cdv A outer s H E).env.scope "shape" := by walk_at "dv"
  have l0 : Loc (fcx P w K mg base n_variables_of "variables_of" s_variables_of f cdv A outer s H E).env.scope "shape" := by walk_at "dl"
  have v1 : (fcx P w K mg base n_variables_of "variables_of" s_variables_of f cdv A outer s H E).N[1]? = some ("variable" : Str) := rfl
  have nd : (fcx P w K mg base n_variables_of "variables_of" s_variables_of f cdv A outer s H E).N.Nodup := sc_variables_of.nd
  have b_list := T'.b_list
  have c_occurrences := Fn.cal (X := (fcx P w K mg base n_variables_of "variables_of" s_variables_of f cdv A outer s H E)) F_occurrences hr hgd
  have b_tuple := T'.b_tuple
  have rm : Rm ⟨(fcx P w K mg base n_variables_of "variables_of" s_variables_of f cdv A outer s H E), H, dr⟩ := rm_of hr
  have gd : Gd ⟨(fcx P w K mg base n_variables_of "variables_of" s_variables_of f cdv A outer s H E), H, dr⟩ := hgd
  rw [show List.replicate (n_variables_of.length - [("shape" : Str)].length) SV.no = [.no] from rfl]
  walk_at "dz"
  walk_at "d"
  refine DL.de (dl_listDD b_list (dd_dc v1 nd (di_lst ?_)))
  walk_at "d"
  refine ⟨d, rfl, hw, hz, _, rfl, rfl, ?_, ?_⟩
  · have := occ_len d
    rw [List.length_map]
    unfold sizeLine; omega
  refine ⟨fun i acc ρ2 => ρ2 = [.dat d, .no] ∧ acc = (nub ((occ d).take i)).map fun k => ((.inl k : Key), .bool true), ⟨rfl, rfl⟩, ?_, ?_⟩
  · rintro i e acc ρ2 he ⟨rfl, rfl⟩ Hx s1 H1 C1 cl fp
    rw [List.getElem?_map] at he
    obtain ⟨z, hz2, rfl⟩ := Option.map_eq_some_iff.mp he
    walk_at "d"
    refine ⟨.inl z, rfl, fun s2 H2 C2 cl2 fp2 => ?_⟩
    walk_at "d"
    refine ⟨rfl, ?_⟩
    rw [putD_nub, List.take_add_one, hz2, ← nub_snoc]
    rfl
  · rintro acc ρ2 ⟨rfl, rfl⟩
    rw [List.length_map, List.take_of_length_le (Nat.le_refl _), List.map_map]
    walk_at "d"
    exact hR
def fs_L_vars (n : Nat) : FS := fun avs R => ∃ d, avs = [.dat d] ∧ wf d = true ∧ ht d ≤ n ∧ sz d ≤ 200 ∧ R (.lst ((nub (occ d)).map .int))
theorem none_L_vars {avs : List AV} {R : RV → Prop} (h : fs_L_vars 0 avs R) : False := by
  obtain ⟨d, _, _, h, _⟩ := h
  have := ht_pos d
  omega
theorem occs_take (ds : List PyData) (i : Nat) : (occs (ds.take i)).length ≤ (occs ds).length := by
  have : occs ds = occs (ds.take i) ++ occs (ds.drop i) := by rw [← occs_app, List.take_append_drop]
  rw [this, List.length_append]; omega
theorem ok_L_vars {b : Nat} (T : Tp K mg) (n : Nat) : Fn P w K mg base (b + n) "_law_vars" (fs_L_vars n) := by
  induction n with
  | zero => exact T.d_L_vars.none (fun avs R h => none_L_vars h)
  | succ n F_L_vars =>
  refine T.d_L_vars.ok sc_L_vars (fun avs R h => ?_) (fun f cdv A outer s H E dr avs R hr hgd h => ?_)
  · obtain ⟨d, rfl, _⟩ := h
    rfl
  obtain ⟨d, rfl, hw, hh, hz, hR⟩ := h
  have T' : Tp (fcx P w K mg base n_L_vars "_law_vars" s_L_vars f cdv A outer s H E).K (fcx P w K mg base n_L_vars "_law_vars" s_L_vars f cdv A outer s H E).mg := T
  have v0 : (fcx P w K mg base n_L_vars "_law_vars" s_L_vars f cdv A outer s H E).N[0]? = some ("_law_shape" : Str) := rfl
  have w0 : Vis (fcx P w K mg base n_L_vars "_law_vars" s_L_vars f cdv A outer s H E).env.scope "_law_shape" := by walk_at "dv"
  have l0 : Loc (fcx P w K mg base n_L_vars "_law_vars" s_L_vars f cdv A outer s H E).env.scope "_law_shape" := by walk_at "dl"
  have v1 : (fcx P w K mg base n_L_vars "_law_vars" s_L_vars f cdv A outer s H E).N[1]? = some ("_law_found" : Str) := rfl
  have w1 : Vis (fcx P w K mg base n_L_vars "_law_vars" s_L_vars f cdv A outer s H E).env.scope "_law_found" := by walk_at "dv"
  have l1 : Loc (fcx P w K mg base n_L_vars "_law_vars" s_L_vars f cdv A outer s H E).env.scope "_law_found" := by walk_at "dl"
  have v2 : (fcx P w K mg base n_L_vars "_law_vars" s_L_vars f cdv A outer s H E).N[2]? = some ("_law_part" : Str) := rfl
  have w2 : Vis (fcx P w K mg base n_L_vars "_law_vars" s_L_vars f cdv A outer s H E).env.scope "_law_part" := by walk_at "dv"
  have l2 : Loc (fcx P w K mg base n_L_vars "_law_vars" s_L_vars f cdv A outer s H E).env.scope "_law_part" := by walk_at "dl"
  have v3 : (fcx P w K mg base n_L_vars "_law_vars" s_L_vars f cdv A outer s H E).N[3]? = some ("_law_one_here" : Str) := rfl
  have nd : (fcx P w K mg base n_L_vars "_law_vars" s_L_vars f cdv A outer s H E).N.Nodup := sc_L_vars.nd
  have c_L_vars := Fn.cal (X := (fcx P w K mg base n_L_vars "_law_vars" s_L_vars f cdv A outer s H E)) F_L_vars hr hgd
  have b_int := T'.b_int
  have b_isinstance := T'.b_isinstance
  have rm : Rm ⟨(fcx P w K mg base n_L_vars "_law_vars" s_L_vars f cdv A outer s H E), H, dr⟩ := rm_of hr
  have gd : Gd ⟨(fcx P w K mg base n_L_vars "_law_vars" s_L_vars f cdv A outer s H E), H, dr⟩ := hgd
  rw [show List.replicate (n_L_vars.length - [("_law_shape" : Str)].length) SV.no = [.no, .no, .no] from rfl]
  walk_at "dz"
  walk_at "d"
  rcases wf_cases hw with ⟨i, rfl⟩ | ⟨hd, ds, rfl, hws, hn⟩
  · refine ⟨fun _ => ?_, fun h => (nomatch h)⟩
    walk_at "d"
    rw [occ] at hR
    exact hR
  · refine ⟨fun h => (nomatch h), fun _ => ?_⟩
    have hn3 := node_len hn
    rw [sz] at hz
    rw [occ] at hR
    rw [ht] at hh
    have hol := occs_len ds
    walk_at "d"
    walk_at "dsl"
    refine dl_list ?_
    walk_at "d"
    refine ds_for (di_tup ?_)
    walk_at "d"
    rw [cut_1]
    refine ⟨fun i ρ => ∃ s2, ρ = [.dat (.tuple (hd :: ds)), .own ((nub (occs (ds.take i))).map .int), s2, .no], ⟨.no, rfl⟩, ?_, ?_⟩
    · rintro i p ρ hp ⟨s2, rfl⟩
      have hpm := List.mem_of_getElem? hp
      have hpz := szs_mem hpm
      have hpo := occ_len p
      have hpn := nub_len (occ p)
      have hon := nub_len (occs (ds.take i))
      have hot := occs_take ds i
      refine gt_name v2 l2 nd ?_
      walk_at "dz"
      walk_at "d"
      refine me_extend v1 w1 rfl ?_
      refine DL.de (lc_filterA v3 nd rfl (fun x => !decide (x ∈ nub (occs (ds.take i)))) (fun x : Int => .int x) (fun x : Int => .int x) (di_lst ?_))
      walk_at "d"
      refine ⟨p, rfl, wfs_mem hws hpm, ?_, by omega, _, rfl, ?_⟩
      · have := hts_mem hpm; omega
      refine ⟨nub (occ p), rfl, rfl, ?_, fun z hz s1 H1 C1 cl fp Hx => ?_, fun z hz hh s1 H1 C1 cl fp Hx => ?_, ?_⟩
      · rw [List.length_map]; unfold sizeLine; omega
      · walk_at "d"
        refine do_ninL (by walk_at "rm") (by rfl) (ints_shaped _) ?_
        rw [ints_any]
        walk_at "d"
        exact ⟨rfl, rfl⟩
      · walk_at "d"
        exact ⟨rfl, rfl⟩
      refine ⟨_, _, .inl rfl, rfl, ?_, ?_⟩
      · have := List.length_filter_le (fun x => !decide (x ∈ nub (occs (ds.take i)))) (nub (occ p))
        rw [List.length_map, List.length_map]; unfold sizeLine; omega
      walk_at "dz"
      walk_at "d"
      refine ⟨.dat p, ?_⟩
      rw [List.take_add_one, hp, occs_app, nub_app, List.map_append]
      show _ = [_, SV.own (_ ++ List.map PyData.int (List.filter _ (nub (occs [p])))), _, _]
      rw [occs, occs, List.append_nil]
      try rfl
    · rintro ρ ⟨s2, rfl⟩
      rw [List.take_of_length_le (Nat.le_refl _)]
      walk_at "d"
      exact hR
end
end K01
namespace K01
open PySem L2 DW PyProof.Rows
local macro_rules | `(tactic| walk_at "dv") => `(tactic| first | exact Or.inl rfl | exact Or.inr (Or.inl rfl) | exact Or.inr (Or.inr rfl))
local macro_rules | `(tactic| walk_at "dl") => `(tactic| first | exact Or.inl rfl | exact Or.inr rfl)
local macro_rules | `(tactic| walk_at "wv") => `(tactic| first | with_reducible assumption | walk_at "dv")
local macro_rules | `(tactic| walk_at "wa") => `(tactic| with_reducible assumption)
local macro_rules | `(tactic| walk_at "rm") => `(tactic| first | with_reducible assumption | (apply Rm.blk; with_reducible assumption))
local macro_rules | `(tactic| walk_at "dn") => `(tactic| first
  | refine nm_dat (by walk_at "wa") (by walk_at "wv") (by rfl) ?_ | refine nm_own (by walk_at "wa") (by walk_at "wv") (by rfl) ?_ | refine nm_drw (by walk_at "wa") (by walk_at "wv") (by rfl) ?_ | refine nm_scr (by walk_at "wa") (by walk_at "wv") (by rfl) ?_
  | refine de_globI (by walk_at "wa") rfl ?_ | refine de_globS (by walk_at "wa") rfl ?_)
local macro_rules | `(tactic| walk_at "dci") => `(tactic| first
  | ((with_reducible show DE _ _ (Expr.Call _ [_, Expr.Name "int" _] _ _) _); refine de_is kInt bt_int (by walk_at "wa") (by walk_at "wa") ?_)
  | ((with_reducible show DE _ _ (Expr.Call _ [_, Expr.Name "bool" _] _ _) _); refine de_is kBool bt_bool (by walk_at "wa") (by walk_at "wa") ?_)
  | ((with_reducible show DE _ _ (Expr.Call _ [_, Expr.Name "str" _] _ _) _); refine de_is kStr bt_str (by walk_at "wa") (by walk_at "wa") ?_)
  | ((with_reducible show DE _ _ (Expr.Call _ [_, Expr.Name "tuple" _] _ _) _); refine de_is kTup bt_tuple (by walk_at "wa") (by walk_at "wa") ?_)
  | ((with_reducible show DE _ _ (Expr.Call _ [_, Expr.Name "list" _] _ _) _); refine de_is kLst bt_list (by walk_at "wa") (by walk_at "wa") ?_)
  | ((with_reducible show DE _ _ (Expr.Call _ [_, Expr.Tuple [Expr.Name "tuple" _, Expr.Name "list" _] _ _] _ _) _); refine de_is2 kTup kLst bt_tuple bt_list (by walk_at "wa") (by walk_at "wa") (by walk_at "wa") ?_)
  | ((with_reducible show DE _ _ (Expr.Call _ [_, Expr.Tuple [Expr.Name "int" _, Expr.Name "tuple" _] _ _] _ _) _); refine de_is2 kInt kTup bt_int bt_tuple (by walk_at "wa") (by walk_at "wa") (by walk_at "wa") ?_))
local macro_rules | `(tactic| walk_at "dc") => `(tactic| first
  | ((with_reducible show DE _ _ (Expr.Call (Expr.Name "isinstance" _) _ _ _) _); walk_at "dci")
  | ((with_reducible show DE _ _ (Expr.Call (Expr.Name "len" _) [Expr.Name _ _] _ _) _); refine len_scr (by walk_at "wa") (by walk_at "wv") (by rfl) (by walk_at "wa") ?_)
  | ((with_reducible show DE _ _ (Expr.Call (Expr.Name "len" _) _ _ _) _); refine de_b1 bb_len (by walk_at "wa") ?_)
  | ((with_reducible show DE _ _ (Expr.Call (Expr.Name "abs" _) _ _ _) _); refine de_b1 bb_abs (by walk_at "wa") ?_)
  | ((with_reducible show DE _ _ (Expr.Call (Expr.Name "repr" _) _ _ _) _); refine de_b1 bb_repr (by walk_at "wa") ?_)
  | ((with_reducible show DE _ _ (Expr.Call (Expr.Name "all" _) _ _ _) _); refine de_b1 bb_all (by walk_at "wa") ?_)
  | ((with_reducible show DE _ _ (Expr.Call (Expr.Name "any" _) _ _ _) _); refine de_b1 bb_any (by walk_at "wa") ?_)
  | ((with_reducible show DE _ _ (Expr.Call (Expr.Name "sum" _) _ _ _) _); refine de_b1 bb_sum (by walk_at "wa") ?_)
  | ((with_reducible show DE _ _ (Expr.Call (Expr.Name "max" _) _ _ _) _); refine de_b1 bb_max (by walk_at "wa") ?_)
  | ((with_reducible show DE _ _ (Expr.Call (Expr.Name "int" _) _ _ _) _); refine de_t1 bt_int (by walk_at "wa") ?_)
  | ((with_reducible show DE _ _ (Expr.Call (Expr.Name "tuple" _) _ _ _) _); refine de_t1 bt_tuple (by walk_at "wa") ?_)
  | ((with_reducible show DE _ _ (Expr.Call (Expr.Name "min" _) _ _ _) _); refine de_b2 bb_min (by walk_at "wa") ?_)
  | ((with_reducible show DE ⟨blkX _ _ _ _ _ _ _, _, _⟩ _ _ _); refine de_fB (by walk_at "wa") ?_)
  | refine de_f (by walk_at "wa") ?_)
local macro_rules | `(tactic| walk_at "de") => `(tactic| first
  | ((with_reducible show DE _ _ (Expr.Name _ _) _); walk_at "dn")
  | ((with_reducible show DE _ _ (Expr.Call (Expr.Name _ _) _ _ _) _); walk_at "dc")
  | ((with_reducible show DE _ _ (Expr.Constant (Const.int _) _ _) _); refine de_int ?_)
  | ((with_reducible show DE _ _ (Expr.Constant (Const.str _) _ _) _); refine de_str ?_)
  | ((with_reducible show DE _ _ (Expr.Constant (Const.bool _) _ _) _); refine de_bl ?_)
  | ((with_reducible show DE _ _ (Expr.Constant Const.none _ _) _); refine de_non ?_)
  | ((with_reducible show DE _ _ (Expr.Compare _ [_] _ _) _); refine de_cmp ?_)
  | ((with_reducible show DE _ _ (Expr.Compare _ [_, _] _ _) _); refine de_chain ?_)
  | ((with_reducible show DE _ _ (Expr.BinOp (Expr.List _ _) Operator.Add _ _) _); refine DL.de (dl_op ?_))
  | ((with_reducible show DE _ _ (Expr.BinOp _ Operator.Add (Expr.List _ _) _) _); refine DL.de (dl_op ?_))
  | ((with_reducible show DE _ _ (Expr.BinOp _ _ _ _) _); refine de_op ?_)
  | ((with_reducible show DE _ _ (Expr.Dict [] [] _) _); refine de_dic0 ?_)
  | ((with_reducible show DE _ _ (Expr.List _ _) _); refine DL.de (dl_list ?_))
  | ((with_reducible show DE _ _ (Expr.Subscript _ (Expr.Slice _ _ (some _) _) _) _); refine de_revT ?_)
  | ((with_reducible show DE _ _ (Expr.Subscript (Expr.Name _ _) (Expr.Slice _ _ none _) _) _); first
    | refine de_slT (nm_dat (d := PyData.tuple _) (by walk_at "wa") (by walk_at "wv") (by rfl) ?_)
    | refine de_slS (nm_dat (d := PyData.str _) (by walk_at "wa") (by walk_at "wv") (by rfl) ?_)
    | refine DL.de (dl_slL (nm_dat (d := PyData.list _) (by walk_at "wa") (by walk_at "wv") (by rfl) ?_)))
  | ((with_reducible show DE _ _ (Expr.Subscript _ (Expr.Slice _ _ none _) _) _); refine de_slT ?_)
  | ((with_reducible show DE _ _ (Expr.Subscript (Expr.Name _ _) (Expr.Constant (Const.int _) _ _) _) _); refine de_drwIx (by walk_at "wa") (by walk_at "wv") (by rfl) (by decide) ?_)
  | ((with_reducible show DE _ _ (Expr.Subscript _ _ _) _); refine de_ix ?_)
  | ((with_reducible show DE _ _ (Expr.Tuple _ _ _) _); refine de_tuple ?_)
  | ((with_reducible show DE _ _ (Expr.BoolOp _ [_] _) _); refine de_one ?_)
  | ((with_reducible show DE _ _ (Expr.BoolOp BoolOp.And _ _) _); refine de_and ?_)
  | ((with_reducible show DE _ _ (Expr.BoolOp BoolOp.Or _ _) _); refine de_or ?_)
  | ((with_reducible show DE _ _ (Expr.UnaryOp UnaryOp.Not _ _) _); refine de_not ?_)
  | ((with_reducible show DE _ _ (Expr.UnaryOp UnaryOp.USub _ _) _); refine de_neg ?_)
  | ((with_reducible show DE _ _ (Expr.IfExp _ _ _ _) _); refine de_if ?_))
local macro_rules | `(tactic| walk_at "dop") => `(tactic| first
  | ((with_reducible show DOp _ (binaryOp Operator.Add) (PyData.int _) (PyData.int _) _); refine do_add ?_)
  | ((with_reducible show DOp _ (binaryOp Operator.Sub) (PyData.int _) (PyData.int _) _); refine do_sub ?_)
  | ((with_reducible show DOp _ (binaryOp Operator.Mult) (PyData.int _) (PyData.int _) _); first | refine do_mul ?_ (by first | exact Or.inl ⟨by decide, by decide⟩ | exact Or.inr ⟨by decide, by decide⟩) | refine do_mul ?_ ?_)
  | ((with_reducible show DOp _ (binaryOp Operator.FloorDiv) (PyData.int _) (PyData.int _) _); first | refine do_fdiv ?_ ⟨by first | decide | with_reducible assumption | omega, by first | decide | with_reducible assumption | omega⟩ | refine do_fdiv ?_ ?_)
  | ((with_reducible show DOp _ (binaryOp Operator.Mod) (PyData.int _) (PyData.int _) _); first | refine do_mod ?_ (by first | decide | with_reducible assumption | omega) | refine do_mod ?_ ?_)
  | ((with_reducible show DOp _ (binaryOp Operator.Pow) (PyData.int _) (PyData.int _) _); first | refine do_pow ?_ ⟨by decide, by decide, by decide⟩ | refine do_pow ?_ ?_)
  | ((with_reducible show DOp _ (compareOp CmpOp.Lt) (PyData.int _) (PyData.int _) _); refine do_lt ?_)
  | ((with_reducible show DOp _ (compareOp CmpOp.LtE) (PyData.int _) (PyData.int _) _); refine do_le ?_)
  | ((with_reducible show DOp _ (compareOp CmpOp.Gt) (PyData.int _) (PyData.int _) _); refine do_gt ?_)
  | ((with_reducible show DOp _ (compareOp CmpOp.GtE) (PyData.int _) (PyData.int _) _); refine do_ge ?_)
  | ((with_reducible show DOp _ (compareOp CmpOp.Eq) (PyData.int _) (PyData.int _) _); refine do_eqI ?_)
  | ((with_reducible show DOp _ (compareOp CmpOp.NotEq) (PyData.int _) (PyData.int _) _); refine do_neI ?_)
  | ((with_reducible show DOp _ (compareOp CmpOp.Eq) (PyData.str _) (PyData.str _) _); refine do_eqS ?_)
  | ((with_reducible show DOp _ (compareOp CmpOp.NotEq) (PyData.str _) (PyData.str _) _); refine do_neS ?_)
  | ((with_reducible show DOp _ (compareOp CmpOp.Eq) (PyData.bool _) (PyData.bool _) _); refine do_eqB ?_)
  | ((with_reducible show DOp _ (compareOp CmpOp.NotEq) (PyData.bool _) (PyData.bool _) _); refine do_neB ?_)
  | ((with_reducible show DOp _ (compareOp CmpOp.NotEq) (PyData.list _) (PyData.list []) _); refine do_neL0 (by walk_at "rm") ?_)
  | ((with_reducible show DOp _ (compareOp CmpOp.Eq) (PyData.list _) (PyData.list []) _); refine do_eqL0 (by walk_at "rm") ?_)
  | ((with_reducible show DOp _ (compareOp CmpOp.Eq) (PyData.tuple _) (PyData.tuple []) _); refine do_eqT0 (by walk_at "rm") ?_)
  | ((with_reducible show DOp _ (compareOp CmpOp.Is) _ PyData.none _); refine do_isN ?_)
  | ((with_reducible show DOp _ (compareOp CmpOp.IsNot) _ PyData.none _); refine do_notN ?_)
  | ((with_reducible show DOp _ (compareOp CmpOp.In) (PyData.str ⟨#[_]⟩) (PyData.str _) _); refine do_inS ?_)
  | ((with_reducible show DOp _ (compareOp CmpOp.NotIn) (PyData.str ⟨#[_]⟩) (PyData.str _) _); refine do_ninS ?_))
local macro_rules | `(tactic| walk_at "dca") => `(tactic| first
  | ((with_reducible show DCall _ (Value.builtin "len") [PyData.tuple _] _); refine dc_len (n := List.length _) ?_ rfl)
  | ((with_reducible show DCall _ (Value.builtin "len") [PyData.list _] _); refine dc_len (n := List.length _) ?_ rfl)
  | ((with_reducible show DCall _ (Value.builtin "len") [PyData.str _] _); refine dc_len ?_ ⟨rfl, ?_⟩)
  | ((with_reducible show DCall _ (Value.builtin "abs") _ _); refine dc_abs ?_)
  | ((with_reducible show DCall _ (Value.builtin "min") _ _); refine dc_min2 rfl ?_)
  | ((with_reducible show DCall _ (Value.type "int") [PyData.bool _] _); refine dc_intB ?_)
  | ((with_reducible show DCall _ (Value.type "tuple") [PyData.list _] _); refine dc_tupL ?_)
  | ((with_reducible show DCall _ (Value.type "tuple") [PyData.tuple _] _); refine dc_tupT ?_))
local macro_rules | `(tactic| walk_at "dix") => `(tactic| first
  | ((with_reducible show DIx _ _ (PyData.int 0) _); first | refine dix_t0 ?_ | refine dix_l0 ?_)
  | ((with_reducible show DIx _ _ (PyData.int 1) _); first | refine dix_t1 ?_ | refine dix_l1 ?_)
  | ((with_reducible show DIx _ _ (PyData.int 2) _); first | refine dix_t2 ?_ | refine dix_l2 ?_))
local macro_rules | `(tactic| walk_at "dt") => `(tactic| first
  | ((with_reducible show DT _ _ (Expr.BoolOp BoolOp.And _ _) _); refine DW.DW.dt (dw_and ?_))
  | ((with_reducible show DT _ _ (Expr.BoolOp BoolOp.Or _ _) _); refine DW.DW.dt (dw_or ?_))
  | ((with_reducible show DT _ _ (Expr.Compare _ [_] _ _) _); refine dt_cmp ?_)
  | ((with_reducible show DT _ _ (Expr.Compare _ [_, _] _ _) _); refine dt_chain ?_)
  | ((with_reducible show DT _ _ (Expr.UnaryOp UnaryOp.Not _ _) _); refine dt_not ?_)
  | refine dt_val ?_)
local macro_rules | `(tactic| walk_at "d1") => `(tactic| first
  | ((with_reducible show DE _ _ _ _); walk_at "de")
  | ((with_reducible show DT _ _ _ _); walk_at "dt")
  | ((with_reducible show DOp _ _ _ _ _); walk_at "dop")
  | ((with_reducible show DOpL _ (binaryOp Operator.Add) (PyData.list _) (PyData.list _) _); refine dol_cat ?_ ?_)
  | ((with_reducible show DCall _ _ _ _); walk_at "dca")
  | ((with_reducible show DIx _ _ _ _); walk_at "dix")
  | ((with_reducible show DW.DW _ _ (Expr.BoolOp BoolOp.And [_] _) _); refine dw_and1 ?_)
  | ((with_reducible show DW.DW _ _ (Expr.BoolOp BoolOp.Or [_] _) _); refine dw_or1 ?_)
  | ((with_reducible show DW.DW _ _ (Expr.BoolOp BoolOp.And _ _) _); refine dw_and ?_)
  | ((with_reducible show DW.DW _ _ (Expr.BoolOp BoolOp.Or _ _) _); refine dw_or ?_)
  | ((with_reducible show DAd _ _ [] _); refine dad_nil ?_)
  | ((with_reducible show DAd _ _ _ _); refine dad_cons ?_)
  | ((with_reducible show DAv _ _ [] _); refine dav_nil ?_)
  | ((with_reducible show DAv _ _ _ _); refine dav_cons ?_)
  | ((with_reducible show DO _ _ none _); refine do_none ?_)
  | ((with_reducible show DO _ _ _ _); refine do_some ?_)
  | ((with_reducible show ∃ dx dy, DatOf _ (EV.dat _) dx ∧ DatOf _ (EV.dat _) dy ∧ _); refine ⟨_, _, .dat, .dat, ?_⟩)
  | ((with_reducible show ∃ dx dy, DatOf _ (EV.dat _) dx ∧ (EV.dat _) = EV.dat dy ∧ _); refine ⟨_, _, .dat, rfl, ?_⟩)
  | ((with_reducible show ∃ dx dy, DatOf _ _ dx ∧ DatOf _ _ dy ∧ _); first | refine ⟨_, _, .own rfl, .dat, ?_⟩ | refine ⟨_, _, .dat, .own rfl, ?_⟩ | refine ⟨_, _, .own rfl, .own rfl, ?_⟩)
  | ((with_reducible show ∃ dx, DatOf _ (EV.dat _) dx ∧ _); refine ⟨_, .dat, ?_⟩)
  | ((with_reducible show ∃ dx, DatOf _ _ dx ∧ _); refine ⟨_, .own rfl, ?_⟩)
  | ((with_reducible show ∃ d, _ = _ ∧ _); refine ⟨_, rfl, ?_⟩)
  | ((with_reducible show ∃ av : AV, _ ∧ _); first | refine ⟨_, Or.inl ⟨rfl, rfl⟩, ?_⟩ | refine ⟨_, Or.inr ⟨_, rfl, rfl⟩, ?_⟩))
local macro_rules | `(tactic| walk_at "db") => `(tactic| first
  | refine ⟨fun _ => ?_, fun h => Bool.noConfusion h⟩ | refine ⟨fun h => Bool.noConfusion h, fun _ => ?_⟩)
local macro_rules | `(tactic| walk_at "dst") => `(tactic| first
  | ((with_reducible show DS _ _ (Stmt.If _ _ _ _) _ _ _ _); refine ds_if ?_)
  | ((with_reducible show DS _ _ (Stmt.Expr _ _) _ _ _ _); refine ds_expr ?_)
  | ((with_reducible show DS _ _ (Stmt.Pass _) _ _ _ _); refine ds_pass ?_)
  | ((with_reducible show DS _ _ (Stmt.Assign [Expr.Subscript (Expr.Name _ _) (Expr.Constant (Const.int _) _ _) _] _ _) _ _ _ _); refine ds_drwSet (by walk_at "wa") (by walk_at "wv") ?_)
  | ((with_reducible show DS _ _ (Stmt.Return (some (Expr.ListComp _ _ _ _)) _) _ _ _ _); refine ds_retL ?_)
  | ((with_reducible show DS _ _ (Stmt.Return (some (Expr.List _ _)) _) _ _ _ _); refine ds_retL (dl_list ?_))
  | ((with_reducible show DS _ _ (Stmt.Return (some (Expr.Name _ _)) _) _ _ _ _); first
    | refine ds_ret (nm_dat (by walk_at "wa") (by walk_at "wv") (by rfl) ?_)
    | refine ds_retO (nm_own (by walk_at "wa") (by walk_at "wv") (by rfl) ⟨_, _, rfl, rfl, ?_⟩)
    | refine ds_ret ?_)
  | ((with_reducible show DS _ _ (Stmt.Return (some _) _) _ _ _ _); refine ds_ret ?_)
  | ((with_reducible show DS _ _ (Stmt.Assign [Expr.Name _ _] _ _) _ _ _ _); (fail_if_success (with_reducible show DS _ _ (Stmt.Assign [Expr.Name _ _] (Expr.ListComp _ _ _ _) _) _ _ _ _)); (fail_if_success (with_reducible show DS _ _ (Stmt.Assign [Expr.Name _ _] (Expr.List _ _) _) _ _ _ _)); refine st_set (by walk_at "wa") (by walk_at "wa") (by walk_at "wa") ?_))
local macro_rules | `(tactic| walk_at "e") => `(tactic| repeat (first | walk_at "d1" | walk_at "db"))
local macro_rules | `(tactic| walk_at "d") => `(tactic| repeat (first | walk_at "d1" | walk_at "db" | ((with_reducible show DS _ _ _ _ _ _ _); walk_at "dst") | ((with_reducible show DB _ _ [] _ _ _ _); refine db_nil ?_) | ((with_reducible show DB _ _ _ _ _ _ _); refine db_cons ?_)))
local macro_rules | `(tactic| walk_at "ds") => `(tactic| refine st_set (by walk_at "wa") (by walk_at "wa") (by walk_at "wa") ?_)
local macro_rules | `(tactic| walk_at "dsl") => `(tactic| refine st_setL (by walk_at "wa") (by walk_at "wa") (by walk_at "wa") ?_)
local macro_rules | `(tactic| walk_at "dz") => `(tactic| dsimp (config := { proj := false }) only [List.set, List.map, List.replicate, List.cons_append, List.nil_append, AV.sv])
section
variable {P : Program} {w : World} {K : PySem.W.Frag} {mg : Str → Option Value} {base : Heap}
theorem plain_ints (n : Nat) (l : List Int) : plains n (l.map .int) = true := by
  induction l with
  | nil => rw [List.map_nil, plains]
  | cons a l ih => rw [List.map_cons, plains, ih]; simp [plain]
theorem plain_told (l : List Int) (n : Int) (h : l.length < sizeLine) : plain 4 (.list [.tuple (l.map .int), .int n]) = true := by
  have h2 : plain 3 (.int n) = true := by simp [plain]
  have h3 : plain 3 (.tuple (l.map .int)) = true := by
    rw [plain, plain_ints, List.length_map, decide_eq_true h]
    rfl
  rw [plain, plains, plains, plains, h2, h3]
  show (decide (2 < sizeLine) && _) = true
  decide
def fs_L_right : FS := fun avs R => ∃ d, avs = [.dat d] ∧ Cls d ∧ R (.dat (.bool true))
theorem shape_wf {d : PyData} (h : isShape d = true) : wf d = true ∧ sz d ≤ 200 ∧ ht d ≤ 30 := by
  unfold isShape at h
  rw [Bool.and_eq_true, Bool.and_eq_true] at h
  exact ⟨h.1.1, dTr h.1.2, dTr h.2⟩
theorem ok_L_right {k : Nat} (T : Tp K mg) (F_L_look : Fn P w K mg base k "_law_look" (fs_L_look 61)) (F_L_same : Fn P w K mg base k "_law_same" (fs_L_same 5)) (F_L_vars : Fn P w K mg base k "_law_vars" (fs_L_vars 30)) (F_count_nodes : Fn P w K mg base k "count_nodes" (fs_count_nodes 30)) (F_is_shape : Fn P w K mg base k "is_shape" fs_is_shape) (F_variables_of : Fn P w K mg base k "variables_of" fs_variables_of) : Fn P w K mg base (k + 1) "_law_right" fs_L_right := by
  refine T.d_L_right.ok sc_L_right (fun avs R h => ?_) (fun f cdv A outer s H E dr avs R hr hgd h => ?_)
  · obtain ⟨d, rfl, _⟩ := h
    rfl
  obtain ⟨d, rfl, hc, hR⟩ := h
  have T' : Tp (fcx P w K mg base n_L_right "_law_right" s_L_right f cdv A outer s H E).K (fcx P w K mg base n_L_right "_law_right" s_L_right f cdv A outer s H E).mg := T
  have v0 : (fcx P w K mg base n_L_right "_law_right" s_L_right f cdv A outer s H E).N[0]? = some ("_law_value" : Str) := rfl
  have w0 : Vis (fcx P w K mg base n_L_right "_law_right" s_L_right f cdv A outer s H E).env.scope "_law_value" := by walk_at "dv"
  have l0 : Loc (fcx P w K mg base n_L_right "_law_right" s_L_right f cdv A outer s H E).env.scope "_law_value" := by walk_at "dl"
  have v1 : (fcx P w K mg base n_L_right "_law_right" s_L_right f cdv A outer s H E).N[1]? = some ("_law_held" : Str) := rfl
  have w1 : Vis (fcx P w K mg base n_L_right "_law_right" s_L_right f cdv A outer s H E).env.scope "_law_held" := by walk_at "dv"
  have l1 : Loc (fcx P w K mg base n_L_right "_law_right" s_L_right f cdv A outer s H E).env.scope "_law_held" := by walk_at "dl"
  have v2 : (fcx P w K mg base n_L_right "_law_right" s_L_right f cdv A outer s H E).N[2]? = some ("_law_size" : Str) := rfl
  have w2 : Vis (fcx P w K mg base n_L_right "_law_right" s_L_right f cdv A outer s H E).env.scope "_law_size" := by walk_at "dv"
  have l2 : Loc (fcx P w K mg base n_L_right "_law_right" s_L_right f cdv A outer s H E).env.scope "_law_size" := by walk_at "dl"
  have v3 : (fcx P w K mg base n_L_right "_law_right" s_L_right f cdv A outer s H E).N[3]? = some ("_law_due" : Str) := rfl
  have w3 : Vis (fcx P w K mg base n_L_right "_law_right" s_L_right f cdv A outer s H E).env.scope "_law_due" := by walk_at "dv"
  have l3 : Loc (fcx P w K mg base n_L_right "_law_right" s_L_right f cdv A outer s H E).env.scope "_law_due" := by walk_at "dl"
  have v4 : (fcx P w K mg base n_L_right "_law_right" s_L_right f cdv A outer s H E).N[4]? = some ("_law_told" : Str) := rfl
  have w4 : Vis (fcx P w K mg base n_L_right "_law_right" s_L_right f cdv A outer s H E).env.scope "_law_told" := by walk_at "dv"
  have l4 : Loc (fcx P w K mg base n_L_right "_law_right" s_L_right f cdv A outer s H E).env.scope "_law_told" := by walk_at "dl"
  have nd : (fcx P w K mg base n_L_right "_law_right" s_L_right f cdv A outer s H E).N.Nodup := sc_L_right.nd
  have c_L_look := Fn.cal (X := (fcx P w K mg base n_L_right "_law_right" s_L_right f cdv A outer s H E)) F_L_look hr hgd
  have c_L_same := Fn.cal (X := (fcx P w K mg base n_L_right "_law_right" s_L_right f cdv A outer s H E)) F_L_same hr hgd
  have c_L_vars := Fn.cal (X := (fcx P w K mg base n_L_right "_law_right" s_L_right f cdv A outer s H E)) F_L_vars hr hgd
  have c_count_nodes := Fn.cal (X := (fcx P w K mg base n_L_right "_law_right" s_L_right f cdv A outer s H E)) F_count_nodes hr hgd
  have c_is_shape := Fn.cal (X := (fcx P w K mg base n_L_right "_law_right" s_L_right f cdv A outer s H E)) F_is_shape hr hgd
  have b_repr := T'.b_repr
  have b_tuple := T'.b_tuple
  have c_variables_of := Fn.cal (X := (fcx P w K mg base n_L_right "_law_right" s_L_right f cdv A outer s H E)) F_variables_of hr hgd
  have rm : Rm ⟨(fcx P w K mg base n_L_right "_law_right" s_L_right f cdv A outer s H E), H, dr⟩ := rm_of hr
  have gd : Gd ⟨(fcx P w K mg base n_L_right "_law_right" s_L_right f cdv A outer s H E), H, dr⟩ := hgd
  rw [show List.replicate (n_L_right.length - [("_law_value" : Str)].length) SV.no = [.no, .no, .no, .no] from rfl]
  walk_at "dz"
  have hsh := short_of d hc.g
  have hrep : ∀ {kd : PyData → Prop}, kd (.str d.shown) → DCall (fcx P w K mg base n_L_right "_law_right" s_L_right f cdv A outer s H E) (.builtin "repr") [d] kd := fun {kd} q => by
    refine dc_repr (C := ⟨fcx P w K mg base n_L_right "_law_right" s_L_right f cdv A outer s H E, H, dr⟩) gd ?_ (show_of d hc.g) hc.one ?_ q
    · have h1 : (fcx P w K mg base n_L_right "_law_right" s_L_right f cdv A outer s H E).A.units + 200 < cLine := rm
      have h2 := hc.dp
      show (fcx P w K mg base n_L_right "_law_right" s_L_right f cdv A outer s H E).A.units + (d.depth + 1) < cLine
      omega
    · have := shown_le d hc.g
      have := hc.w
      unfold sizeLine
      omega
  walk_at "d"
  refine hrep ?_
  walk_at "d"
  refine ⟨d, rfl, hsh, by have := hc.dp; omega, fun rv hrv => ?_⟩
  refine ⟨lookD d, congrArg EV.dat hrv, ?_⟩
  walk_at "dz"
  cases hw : wf d with
  | false =>
    have hS : isShape d = false := by unfold isShape; rw [hw]; rfl
    rw [lookD_f hw]
    walk_at "d"
    refine ⟨d, rfl, hsh, ?_⟩
    walk_at "d"
    rw [hS]
    refine ⟨.bool false, rfl, rfl, _, rfl, ?_⟩
    walk_at "d"
    refine hrep ?_
    walk_at "d"
    refine ⟨fun h => absurd rfl (nTd h), fun _ => ?_⟩
    walk_at "d"
    exact hR
  | true =>
    rw [lookD_t hw]
    walk_at "d"
    refine ⟨fun h1 => ?_, fun h1 => ?_⟩
    · walk_at "d"
      cases h2 : decide (ht d ≤ 30) with
      | false =>
        have hS : isShape d = false := by unfold isShape; rw [h2, Bool.and_false]
        walk_at "d"
        refine ⟨d, rfl, hsh, ?_⟩
        walk_at "d"
        rw [hS]
        refine ⟨.bool false, rfl, rfl, _, rfl, ?_⟩
        walk_at "d"
        refine hrep ?_
        walk_at "d"
        refine ⟨fun h => absurd rfl (nTd h), fun _ => ?_⟩
        walk_at "d"
        exact hR
      | true =>
        have hS : isShape d = true := by unfold isShape; rw [hw, h1, h2]; rfl
        have h1 := dTr h1
        have h2 := dTr h2
        walk_at "d"
        refine ⟨d, rfl, hsh, ?_⟩
        walk_at "d"
        rw [hS]
        refine ⟨.bool true, rfl, rfl, _, rfl, ?_⟩
        walk_at "d"
        refine hrep ?_
        walk_at "d"
        refine ⟨fun h => absurd rfl (nTd h), fun _ => ?_⟩
        walk_at "d"
        walk_at "ds"
        walk_at "d"
        refine ⟨d, rfl, hw, h1, _, rfl, ?_⟩
        walk_at "d"
        refine ⟨d, rfl, hw, h2, _, rfl, ?_⟩
        walk_at "d"
        refine ⟨d, rfl, hw, h2, h1, .list ((nub (occ d)).map .int), .dat, ?_⟩
        walk_at "d"
        refine ⟨_, rfl, ?_, _, rfl, ?_⟩
        · refine plain_told _ _ ?_
          have := nub_len (occ d)
          have := occ_len d
          unfold sizeLine; omega
        walk_at "d"
        refine hrep ?_
        walk_at "d"
        rw [decide_eq_true rfl]
        exact hR
    · have hS : isShape d = false := by unfold isShape; rw [h1, Bool.and_false]; rfl
      walk_at "d"
      refine ⟨d, rfl, hsh, ?_⟩
      walk_at "d"
      rw [hS]
      refine ⟨.bool false, rfl, rfl, _, rfl, ?_⟩
      walk_at "d"
      refine hrep ?_
      walk_at "d"
      refine ⟨fun h => absurd rfl (nTd h), fun _ => ?_⟩
      walk_at "d"
      exact hR
end
end K01
namespace K01
open PySem L2 DW PyProof.Rows
local macro_rules | `(tactic| walk_at "dv") => `(tactic| first | exact Or.inl rfl | exact Or.inr (Or.inl rfl) | exact Or.inr (Or.inr rfl))
local macro_rules | `(tactic| walk_at "dl") => `(tactic| first | exact Or.inl rfl | exact Or.inr rfl)
local macro_rules | `(tactic| walk_at "wv") => `(tactic| first | with_reducible assumption | walk_at "dv")
local macro_rules | `(tactic| walk_at "wa") => `(tactic| with_reducible assumption)
local macro_rules | `(tactic| walk_at "rm") => `(tactic| first | with_reducible assumption | (apply Rm.blk; with_reducible assumption))
local macro_rules | `(tactic| walk_at "dn") => `(tactic| first
  | refine nm_dat (by walk_at "wa") (by walk_at "wv") (by rfl) ?_ | refine nm_own (by walk_at "wa") (by walk_at "wv") (by rfl) ?_ | refine nm_drw (by walk_at "wa") (by walk_at "wv") (by rfl) ?_ | refine nm_scr (by walk_at "wa") (by walk_at "wv") (by rfl) ?_
  | refine de_globI (by walk_at "wa") rfl ?_ | refine de_globS (by walk_at "wa") rfl ?_)
local macro_rules | `(tactic| walk_at "dci") => `(tactic| first
  | ((with_reducible show DE _ _ (Expr.Call _ [_, Expr.Name "int" _] _ _) _); refine de_is kInt bt_int (by walk_at "wa") (by walk_at "wa") ?_)
  | ((with_reducible show DE _ _ (Expr.Call _ [_, Expr.Name "bool" _] _ _) _); refine de_is kBool bt_bool (by walk_at "wa") (by walk_at "wa") ?_)
  | ((with_reducible show DE _ _ (Expr.Call _ [_, Expr.Name "str" _] _ _) _); refine de_is kStr bt_str (by walk_at "wa") (by walk_at "wa") ?_)
  | ((with_reducible show DE _ _ (Expr.Call _ [_, Expr.Name "tuple" _] _ _) _); refine de_is kTup bt_tuple (by walk_at "wa") (by walk_at "wa") ?_)
  | ((with_reducible show DE _ _ (Expr.Call _ [_, Expr.Name "list" _] _ _) _); refine de_is kLst bt_list (by walk_at "wa") (by walk_at "wa") ?_)
  | ((with_reducible show DE _ _ (Expr.Call _ [_, Expr.Tuple [Expr.Name "tuple" _, Expr.Name "list" _] _ _] _ _) _); refine de_is2 kTup kLst bt_tuple bt_list (by walk_at "wa") (by walk_at "wa") (by walk_at "wa") ?_)
  | ((with_reducible show DE _ _ (Expr.Call _ [_, Expr.Tuple [Expr.Name "int" _, Expr.Name "tuple" _] _ _] _ _) _); refine de_is2 kInt kTup bt_int bt_tuple (by walk_at "wa") (by walk_at "wa") (by walk_at "wa") ?_))
local macro_rules | `(tactic| walk_at "dc") => `(tactic| first
  | ((with_reducible show DE _ _ (Expr.Call (Expr.Name "isinstance" _) _ _ _) _); walk_at "dci")
  | ((with_reducible show DE _ _ (Expr.Call (Expr.Name "len" _) [Expr.Name _ _] _ _) _); refine len_scr (by walk_at "wa") (by walk_at "wv") (by rfl) (by walk_at "wa") ?_)
  | ((with_reducible show DE _ _ (Expr.Call (Expr.Name "len" _) _ _ _) _); refine de_b1 bb_len (by walk_at "wa") ?_)
  | ((with_reducible show DE _ _ (Expr.Call (Expr.Name "abs" _) _ _ _) _); refine de_b1 bb_abs (by walk_at "wa") ?_)
  | ((with_reducible show DE _ _ (Expr.Call (Expr.Name "repr" _) _ _ _) _); refine de_b1 bb_repr (by walk_at "wa") ?_)
  | ((with_reducible show DE _ _ (Expr.Call (Expr.Name "all" _) _ _ _) _); refine de_b1 bb_all (by walk_at "wa") ?_)
  | ((with_reducible show DE _ _ (Expr.Call (Expr.Name "any" _) _ _ _) _); refine de_b1 bb_any (by walk_at "wa") ?_)
  | ((with_reducible show DE _ _ (Expr.Call (Expr.Name "sum" _) _ _ _) _); refine de_b1 bb_sum (by walk_at "wa") ?_)
  | ((with_reducible show DE _ _ (Expr.Call (Expr.Name "max" _) _ _ _) _); refine de_b1 bb_max (by walk_at "wa") ?_)
  | ((with_reducible show DE _ _ (Expr.Call (Expr.Name "int" _) _ _ _) _); refine de_t1 bt_int (by walk_at "wa") ?_)
  | ((with_reducible show DE _ _ (Expr.Call (Expr.Name "tuple" _) _ _ _) _); refine de_t1 bt_tuple (by walk_at "wa") ?_)
  | ((with_reducible show DE _ _ (Expr.Call (Expr.Name "min" _) _ _ _) _); refine de_b2 bb_min (by walk_at "wa") ?_)
  | ((with_reducible show DE ⟨blkX _ _ _ _ _ _ _, _, _⟩ _ _ _); refine de_fB (by walk_at "wa") ?_)
  | refine de_f (by walk_at "wa") ?_)
local macro_rules | `(tactic| walk_at "de") => `(tactic| first
  | ((with_reducible show DE _ _ (Expr.Name _ _) _); walk_at "dn")
  | ((with_reducible show DE _ _ (Expr.Call (Expr.Name _ _) _ _ _) _); walk_at "dc")
  | ((with_reducible show DE _ _ (Expr.Constant (Const.int _) _ _) _); refine de_int ?_)
  | ((with_reducible show DE _ _ (Expr.Constant (Const.str _) _ _) _); refine de_str ?_)
  | ((with_reducible show DE _ _ (Expr.Constant (Const.bool _) _ _) _); refine de_bl ?_)
  | ((with_reducible show DE _ _ (Expr.Constant Const.none _ _) _); refine de_non ?_)
  | ((with_reducible show DE _ _ (Expr.Compare _ [_] _ _) _); refine de_cmp ?_)
  | ((with_reducible show DE _ _ (Expr.Compare _ [_, _] _ _) _); refine de_chain ?_)
  | ((with_reducible show DE _ _ (Expr.BinOp (Expr.List _ _) Operator.Add _ _) _); refine DL.de (dl_op ?_))
  | ((with_reducible show DE _ _ (Expr.BinOp _ Operator.Add (Expr.List _ _) _) _); refine DL.de (dl_op ?_))
  | ((with_reducible show DE _ _ (Expr.BinOp _ _ _ _) _); refine de_op ?_)
  | ((with_reducible show DE _ _ (Expr.Dict [] [] _) _); refine de_dic0 ?_)
  | ((with_reducible show DE _ _ (Expr.List _ _) _); refine DL.de (dl_list ?_))
  | ((with_reducible show DE _ _ (Expr.Subscript _ (Expr.Slice _ _ (some _) _) _) _); refine de_revT ?_)
  | ((with_reducible show DE _ _ (Expr.Subscript (Expr.Name _ _) (Expr.Slice _ _ none _) _) _); first
    | refine de_slT (nm_dat (d := PyData.tuple _) (by walk_at "wa") (by walk_at "wv") (by rfl) ?_)
    | refine de_slS (nm_dat (d := PyData.str _) (by walk_at "wa") (by walk_at "wv") (by rfl) ?_)
    | refine DL.de (dl_slL (nm_dat (d := PyData.list _) (by walk_at "wa") (by walk_at "wv") (by rfl) ?_)))
  | ((with_reducible show DE _ _ (Expr.Subscript _ (Expr.Slice _ _ none _) _) _); refine de_slT ?_)
  | ((with_reducible show DE _ _ (Expr.Subscript (Expr.Name _ _) (Expr.Constant (Const.int _) _ _) _) _); refine de_drwIx (by walk_at "wa") (by walk_at "wv") (by rfl) (by decide) ?_)
  | ((with_reducible show DE _ _ (Expr.Subscript _ _ _) _); refine de_ix ?_)
  | ((with_reducible show DE _ _ (Expr.Tuple _ _ _) _); refine de_tuple ?_)
  | ((with_reducible show DE _ _ (Expr.BoolOp _ [_] _) _); refine de_one ?_)
  | ((with_reducible show DE _ _ (Expr.BoolOp BoolOp.And _ _) _); refine de_and ?_)
  | ((with_reducible show DE _ _ (Expr.BoolOp BoolOp.Or _ _) _); refine de_or ?_)
  | ((with_reducible show DE _ _ (Expr.UnaryOp UnaryOp.Not _ _) _); refine de_not ?_)
  | ((with_reducible show DE _ _ (Expr.UnaryOp UnaryOp.USub _ _) _); refine de_neg ?_)
  | ((with_reducible show DE _ _ (Expr.IfExp _ _ _ _) _); refine de_if ?_))
local macro_rules | `(tactic| walk_at "dop") => `(tactic| first
  | ((with_reducible show DOp _ (binaryOp Operator.Add) (PyData.int _) (PyData.int _) _); refine do_add ?_)
  | ((with_reducible show DOp _ (binaryOp Operator.Sub) (PyData.int _) (PyData.int _) _); refine do_sub ?_)
  | ((with_reducible show DOp _ (binaryOp Operator.Mult) (PyData.int _) (PyData.int _) _); first | refine do_mul ?_ (by first | exact Or.inl ⟨by decide, by decide⟩ | exact Or.inr ⟨by decide, by decide⟩) | refine do_mul ?_ ?_)
  | ((with_reducible show DOp _ (binaryOp Operator.FloorDiv) (PyData.int _) (PyData.int _) _); first | refine do_fdiv ?_ ⟨by first | decide | with_reducible assumption | omega, by first | decide | with_reducible assumption | omega⟩ | refine do_fdiv ?_ ?_)
  | ((with_reducible show DOp _ (binaryOp Operator.Mod) (PyData.int _) (PyData.int _) _); first | refine do_mod ?_ (by first | decide | with_reducible assumption | omega) | refine do_mod ?_ ?_)
  | ((with_reducible show DOp _ (binaryOp Operator.Pow) (PyData.int _) (PyData.int _) _); first | refine do_pow ?_ ⟨by decide, by decide, by decide⟩ | refine do_pow ?_ ?_)
  | ((with_reducible show DOp _ (compareOp CmpOp.Lt) (PyData.int _) (PyData.int _) _); refine do_lt ?_)
  | ((with_reducible show DOp _ (compareOp CmpOp.LtE) (PyData.int _) (PyData.int _) _); refine do_le ?_)
  | ((with_reducible show DOp _ (compareOp CmpOp.Gt) (PyData.int _) (PyData.int _) _); refine do_gt ?_)
  | ((with_reducible show DOp _ (compareOp CmpOp.GtE) (PyData.int _) (PyData.int _) _); refine do_ge ?_)
  | ((with_reducible show DOp _ (compareOp CmpOp.Eq) (PyData.int _) (PyData.int _) _); refine do_eqI ?_)
  | ((with_reducible show DOp _ (compareOp CmpOp.NotEq) (PyData.int _) (PyData.int _) _); refine do_neI ?_)
  | ((with_reducible show DOp _ (compareOp CmpOp.Eq) (PyData.str _) (PyData.str _) _); refine do_eqS ?_)
  | ((with_reducible show DOp _ (compareOp CmpOp.NotEq) (PyData.str _) (PyData.str _) _); refine do_neS ?_)
  | ((with_reducible show DOp _ (compareOp CmpOp.Eq) (PyData.bool _) (PyData.bool _) _); refine do_eqB ?_)
  | ((with_reducible show DOp _ (compareOp CmpOp.NotEq) (PyData.bool _) (PyData.bool _) _); refine do_neB ?_)
  | ((with_reducible show DOp _ (compareOp CmpOp.NotEq) (PyData.list _) (PyData.list []) _); refine do_neL0 (by walk_at "rm") ?_)
  | ((with_reducible show DOp _ (compareOp CmpOp.Eq) (PyData.list _) (PyData.list []) _); refine do_eqL0 (by walk_at "rm") ?_)
  | ((with_reducible show DOp _ (compareOp CmpOp.Eq) (PyData.tuple _) (PyData.tuple []) _); refine do_eqT0 (by walk_at "rm") ?_)
  | ((with_reducible show DOp _ (compareOp CmpOp.Is) _ PyData.none _); refine do_isN ?_)
  | ((with_reducible show DOp _ (compareOp CmpOp.IsNot) _ PyData.none _); refine do_notN ?_)
  | ((with_reducible show DOp _ (compareOp CmpOp.In) (PyData.str ⟨#[_]⟩) (PyData.str _) _); refine do_inS ?_)
  | ((with_reducible show DOp _ (compareOp CmpOp.NotIn) (PyData.str ⟨#[_]⟩) (PyData.str _) _); refine do_ninS ?_))
local macro_rules | `(tactic| walk_at "dca") => `(tactic| first
  | ((with_reducible show DCall _ (Value.builtin "len") [PyData.tuple _] _); refine dc_len (n := List.length _) ?_ rfl)
  | ((with_reducible show DCall _ (Value.builtin "len") [PyData.list _] _); refine dc_len (n := List.length _) ?_ rfl)
  | ((with_reducible show DCall _ (Value.builtin "len") [PyData.str _] _); refine dc_len ?_ ⟨rfl, ?_⟩)
  | ((with_reducible show DCall _ (Value.builtin "abs") _ _); refine dc_abs ?_)
  | ((with_reducible show DCall _ (Value.builtin "min") _ _); refine dc_min2 rfl ?_)
  | ((with_reducible show DCall _ (Value.type "int") [PyData.bool _] _); refine dc_intB ?_)
  | ((with_reducible show DCall _ (Value.type "tuple") [PyData.list _] _); refine dc_tupL ?_)
  | ((with_reducible show DCall _ (Value.type "tuple") [PyData.tuple _] _); refine dc_tupT ?_))
local macro_rules | `(tactic| walk_at "dix") => `(tactic| first
  | ((with_reducible show DIx _ _ (PyData.int 0) _); first | refine dix_t0 ?_ | refine dix_l0 ?_)
  | ((with_reducible show DIx _ _ (PyData.int 1) _); first | refine dix_t1 ?_ | refine dix_l1 ?_)
  | ((with_reducible show DIx _ _ (PyData.int 2) _); first | refine dix_t2 ?_ | refine dix_l2 ?_))
local macro_rules | `(tactic| walk_at "dt") => `(tactic| first
  | ((with_reducible show DT _ _ (Expr.BoolOp BoolOp.And _ _) _); refine DW.DW.dt (dw_and ?_))
  | ((with_reducible show DT _ _ (Expr.BoolOp BoolOp.Or _ _) _); refine DW.DW.dt (dw_or ?_))
  | ((with_reducible show DT _ _ (Expr.Compare _ [_] _ _) _); refine dt_cmp ?_)
  | ((with_reducible show DT _ _ (Expr.Compare _ [_, _] _ _) _); refine dt_chain ?_)
  | ((with_reducible show DT _ _ (Expr.UnaryOp UnaryOp.Not _ _) _); refine dt_not ?_)
  | refine dt_val ?_)
local macro_rules | `(tactic| walk_at "d1") => `(tactic| first
  | ((with_reducible show DE _ _ _ _); walk_at "de")
  | ((with_reducible show DT _ _ _ _); walk_at "dt")
  | ((with_reducible show DOp _ _ _ _ _); walk_at "dop")
  | ((with_reducible show DOpL _ (binaryOp Operator.Add) (PyData.list _) (PyData.list _) _); refine dol_cat ?_ ?_)
  | ((with_reducible show DCall _ _ _ _); walk_at "dca")
  | ((with_reducible show DIx _ _ _ _); walk_at "dix")
  | ((with_reducible show DW.DW _ _ (Expr.BoolOp BoolOp.And [_] _) _); refine dw_and1 ?_)
  | ((with_reducible show DW.DW _ _ (Expr.BoolOp BoolOp.Or [_] _) _); refine dw_or1 ?_)
  | ((with_reducible show DW.DW _ _ (Expr.BoolOp BoolOp.And _ _) _); refine dw_and ?_)
  | ((with_reducible show DW.DW _ _ (Expr.BoolOp BoolOp.Or _ _) _); refine dw_or ?_)
  | ((with_reducible show DAd _ _ [] _); refine dad_nil ?_)
  | ((with_reducible show DAd _ _ _ _); refine dad_cons ?_)
  | ((with_reducible show DAv _ _ [] _); refine dav_nil ?_)
  | ((with_reducible show DAv _ _ _ _); refine dav_cons ?_)
  | ((with_reducible show DO _ _ none _); refine do_none ?_)
  | ((with_reducible show DO _ _ _ _); refine do_some ?_)
  | ((with_reducible show ∃ dx dy, DatOf _ (EV.dat _) dx ∧ DatOf _ (EV.dat _) dy ∧ _); refine ⟨_, _, .dat, .dat, ?_⟩)
  | ((with_reducible show ∃ dx dy, DatOf _ (EV.dat _) dx ∧ (EV.dat _) = EV.dat dy ∧ _); refine ⟨_, _, .dat, rfl, ?_⟩)
  | ((with_reducible show ∃ dx dy, DatOf _ _ dx ∧ DatOf _ _ dy ∧ _); first | refine ⟨_, _, .own rfl, .dat, ?_⟩ | refine ⟨_, _, .dat, .own rfl, ?_⟩ | refine ⟨_, _, .own rfl, .own rfl, ?_⟩)
  | ((with_reducible show ∃ dx, DatOf _ (EV.dat _) dx ∧ _); refine ⟨_, .dat, ?_⟩)
  | ((with_reducible show ∃ dx, DatOf _ _ dx ∧ _); refine ⟨_, .own rfl, ?_⟩)
  | ((with_reducible show ∃ d, _ = _ ∧ _); refine ⟨_, rfl, ?_⟩)
  | ((with_reducible show ∃ av : AV, _ ∧ _); first | refine ⟨_, Or.inl ⟨rfl, rfl⟩, ?_⟩ | refine ⟨_, Or.inr ⟨_, rfl, rfl⟩, ?_⟩))
local macro_rules | `(tactic| walk_at "db") => `(tactic| first
  | refine ⟨fun _ => ?_, fun h => Bool.noConfusion h⟩ | refine ⟨fun h => Bool.noConfusion h, fun _ => ?_⟩)
local macro_rules | `(tactic| walk_at "dst") => `(tactic| first
  | ((with_reducible show DS _ _ (Stmt.If _ _ _ _) _ _ _ _); refine ds_if ?_)
  | ((with_reducible show DS _ _ (Stmt.Expr _ _) _ _ _ _); refine ds_expr ?_)
  | ((with_reducible show DS _ _ (Stmt.Pass _) _ _ _ _); refine ds_pass ?_)
  | ((with_reducible show DS _ _ (Stmt.Assign [Expr.Subscript (Expr.Name _ _) (Expr.Constant (Const.int _) _ _) _] _ _) _ _ _ _); refine ds_drwSet (by walk_at "wa") (by walk_at "wv") ?_)
  | ((with_reducible show DS _ _ (Stmt.Return (some (Expr.ListComp _ _ _ _)) _) _ _ _ _); refine ds_retL ?_)
  | ((with_reducible show DS _ _ (Stmt.Return (some (Expr.List _ _)) _) _ _ _ _); refine ds_retL (dl_list ?_))
  | ((with_reducible show DS _ _ (Stmt.Return (some (Expr.Name _ _)) _) _ _ _ _); first
    | refine ds_ret (nm_dat (by walk_at "wa") (by walk_at "wv") (by rfl) ?_)
    | refine ds_retO (nm_own (by walk_at "wa") (by walk_at "wv") (by rfl) ⟨_, _, rfl, rfl, ?_⟩)
    | refine ds_ret ?_)
  | ((with_reducible show DS _ _ (Stmt.Return (some _) _) _ _ _ _); refine ds_ret ?_)
  | ((with_reducible show DS _ _ (Stmt.Assign [Expr.Name _ _] _ _) _ _ _ _); (fail_if_success (with_reducible show DS _ _ (Stmt.Assign [Expr.Name _ _] (Expr.ListComp _ _ _ _) _) _ _ _ _)); (fail_if_success (with_reducible show DS _ _ (Stmt.Assign [Expr.Name _ _] (Expr.List _ _) _) _ _ _ _)); refine st_set (by walk_at "wa") (by walk_at "wa") (by walk_at "wa") ?_))
local macro_rules | `(tactic| walk_at "e") => `(tactic| repeat (first | walk_at "d1" | walk_at "db"))
local macro_rules | `(tactic| walk_at "d") => `(tactic| repeat (first | walk_at "d1" | walk_at "db" | ((with_reducible show DS _ _ _ _ _ _ _); walk_at "dst") | ((with_reducible show DB _ _ [] _ _ _ _); refine db_nil ?_) | ((with_reducible show DB _ _ _ _ _ _ _); refine db_cons ?_)))
local macro_rules | `(tactic| walk_at "ds") => `(tactic| refine st_set (by walk_at "wa") (by walk_at "wa") (by walk_at "wa") ?_)
local macro_rules | `(tactic| walk_at "dsl") => `(tactic| refine st_setL (by walk_at "wa") (by walk_at "wa") (by walk_at "wa") ?_)
local macro_rules | `(tactic| walk_at "dz") => `(tactic| dsimp (config := { proj := false }) only [List.set, List.map, List.replicate, List.cons_append, List.nil_append, AV.sv])
section
variable {P : Program} {w : World} {K : PySem.W.Frag} {mg : Str → Option Value} {base : Heap}
def fs_L_leaf : FS := fun avs R => ∃ l : Int, avs = [.drw, .dat (.int l)] ∧ 0 < l ∧ l ≤ 200 ∧ ∀ d, Gs 88 1 d → R (.dat d)
theorem gs_str {l : List Str} {d : PyData} (hd : d ∈ l.map PyData.str) (h : l.all texts.contains = true) : ∃ x, d = .str x ∧ texts.contains x = true := by
  obtain ⟨x, hx, rfl⟩ := List.mem_map.mp hd
  exact ⟨x, rfl, List.all_eq_true.mp h x hx⟩
theorem ok_L_leaf {k : Nat} (T : Tp K mg) (F_L_next : Fn P w K mg base k "_law_next" fs_L_next) (F_L_one : Fn P w K mg base k "_law_one" fs_L_one) : Fn P w K mg base (k + 1) "_law_leaf" fs_L_leaf := by
  refine T.d_L_leaf.ok sc_L_leaf (fun avs R h => ?_) (fun f cdv A outer s H E dr avs R hr hgd h => ?_)
  · obtain ⟨l, rfl, _⟩ := h
    rfl
  obtain ⟨l, rfl, h0, h1, hR⟩ := h
  have T' : Tp (fcx P w K mg base n_L_leaf "_law_leaf" s_L_leaf f cdv A outer s H E).K (fcx P w K mg base n_L_leaf "_law_leaf" s_L_leaf f cdv A outer s H E).mg := T
  have v0 : (fcx P w K mg base n_L_leaf "_law_leaf" s_L_leaf f cdv A outer s H E).N[0]? = some ("_law_drawn" : Str) := rfl
  have w0 : Vis (fcx P w K mg base n_L_leaf "_law_leaf" s_L_leaf f cdv A outer s H E).env.scope "_law_drawn" := by walk_at "dv"
  have l0 : Loc (fcx P w K mg base n_L_leaf "_law_leaf" s_L_leaf f cdv A outer s H E).env.scope "_law_drawn" := by walk_at "dl"
  have v1 : (fcx P w K mg base n_L_leaf "_law_leaf" s_L_leaf f cdv A outer s H E).N[1]? = some ("_law_limit" : Str) := rfl
  have w1 : Vis (fcx P w K mg base n_L_leaf "_law_leaf" s_L_leaf f cdv A outer s H E).env.scope "_law_limit" := by walk_at "dv"
  have l1 : Loc (fcx P w K mg base n_L_leaf "_law_leaf" s_L_leaf f cdv A outer s H E).env.scope "_law_limit" := by walk_at "dl"
  have nd : (fcx P w K mg base n_L_leaf "_law_leaf" s_L_leaf f cdv A outer s H E).N.Nodup := sc_L_leaf.nd
  have c_L_next := Fn.cal (X := (fcx P w K mg base n_L_leaf "_law_leaf" s_L_leaf f cdv A outer s H E)) F_L_next hr hgd
  have c_L_one := Fn.cal (X := (fcx P w K mg base n_L_leaf "_law_leaf" s_L_leaf f cdv A outer s H E)) F_L_one hr hgd
  have rm : Rm ⟨(fcx P w K mg base n_L_leaf "_law_leaf" s_L_leaf f cdv A outer s H E), H, dr⟩ := rm_of hr
  have gd : Gd ⟨(fcx P w K mg base n_L_leaf "_law_leaf" s_L_leaf f cdv A outer s H E), H, dr⟩ := hgd
  rw [show List.replicate (n_L_leaf.length - [("_law_drawn" : Str), ("_law_limit" : Str)].length) SV.no = [] from rfl]
  walk_at "dz"
  walk_at "d"
  refine ⟨3, rfl, by decide, by decide, fun r hr0 hr1 => ?_⟩
  walk_at "d"
  refine ⟨fun _ => ?_, fun _ => ?_⟩
  · walk_at "d"
    refine ⟨l, rfl, h0, by omega, fun r h2 h3 => ⟨_, rfl, ?_⟩⟩
    exact hR _ ((Gs.int h2 (by omega)).mono (by omega) (by omega))
  · walk_at "d"
    refine ⟨_, rfl, by simp, by simp, fun d hd => ?_⟩
    obtain ⟨x, rfl, hx⟩ := gs_str (l := ["A", "B", "Int", "Z9", "Abcdefgh"]) hd (by decide +kernel)
    walk_at "d"
    exact hR _ (Gs.unit hx)
def fs_L_sized (n : Nat) : FS := fun avs R => ∃ m l : Int, avs = [.drw, .dat (.int m), .dat (.int l)] ∧ 1 ≤ m ∧ m ≤ cap n ∧ m ≤ 201 ∧ 0 < l ∧ l ≤ 200 ∧ ∀ d, Gs (88 * m.toNat) n d → R (.dat d)
theorem none_L_sized {avs : List AV} {R : RV → Prop} (h : fs_L_sized 0 avs R) : False := by
  obtain ⟨m, l, _, h0, h1, _⟩ := h
  rw [cap] at h1
  omega
theorem ok_L_sized {b : Nat} (T : Tp K mg) (G_L_leaf : Fn P w K mg base b "_law_leaf" fs_L_leaf) (G_L_next : Fn P w K mg base b "_law_next" fs_L_next) (G_L_one : Fn P w K mg base b "_law_one" fs_L_one) (n : Nat) : Fn P w K mg base (b + n) "_law_sized" (fs_L_sized n) := by
  induction n with
  | zero => exact T.d_L_sized.none (fun avs R h => none_L_sized h)
  | succ n F_L_sized =>
  have F_L_leaf := G_L_leaf.mono (Nat.le_add_right b n)
  have F_L_next := G_L_next.mono (Nat.le_add_right b n)
  have F_L_one := G_L_one.mono (Nat.le_add_right b n)
  refine T.d_L_sized.ok sc_L_sized (fun avs R h => ?_) (fun f cdv A outer s H E dr avs R hr hgd h => ?_)
  · obtain ⟨_, _, rfl, _⟩ := h
    rfl
  obtain ⟨m, l, rfl, hm0, hm1, hm2, hl0, hl1, hR⟩ := h
  have T' : Tp (fcx P w K mg base n_L_sized "_law_sized" s_L_sized f cdv A outer s H E).K (fcx P w K mg base n_L_sized "_law_sized" s_L_sized f cdv A outer s H E).mg := T
  have v0 : (fcx P w K mg base n_L_sized "_law_sized" s_L_sized f cdv A outer s H E).N[0]? = some ("_law_drawn" : Str) := rfl
  have w0 : Vis (fcx P w K mg base n_L_sized "_law_sized" s_L_sized f cdv A outer s H E).env.scope "_law_drawn" := by walk_at "dv"
  have l0 : Loc (fcx P w K mg base n_L_sized "_law_sized" s_L_sized f cdv A outer s H E).env.scope "_law_drawn" := by walk_at "dl"
  have v1 : (fcx P w K mg base n_L_sized "_law_sized" s_L_sized f cdv A outer s H E).N[1]? = some ("_law_many" : Str) := rfl
  have w1 : Vis (fcx P w K mg base n_L_sized "_law_sized" s_L_sized f cdv A outer s H E).env.scope "_law_many" := by walk_at "dv"
  have l1 : Loc (fcx P w K mg base n_L_sized "_law_sized" s_L_sized f cdv A outer s H E).env.scope "_law_many" := by walk_at "dl"
  have v2 : (fcx P w K mg base n_L_sized "_law_sized" s_L_sized f cdv A outer s H E).N[2]? = some ("_law_limit" : Str) := rfl
  have w2 : Vis (fcx P w K mg base n_L_sized "_law_sized" s_L_sized f cdv A outer s H E).env.scope "_law_limit" := by walk_at "dv"
  have l2 : Loc (fcx P w K mg base n_L_sized "_law_sized" s_L_sized f cdv A outer s H E).env.scope "_law_limit" := by walk_at "dl"
  have v3 : (fcx P w K mg base n_L_sized "_law_sized" s_L_sized f cdv A outer s H E).N[3]? = some ("_law_count" : Str) := rfl
  have w3 : Vis (fcx P w K mg base n_L_sized "_law_sized" s_L_sized f cdv A outer s H E).env.scope "_law_count" := by walk_at "dv"
  have l3 : Loc (fcx P w K mg base n_L_sized "_law_sized" s_L_sized f cdv A outer s H E).env.scope "_law_count" := by walk_at "dl"
  have v4 : (fcx P w K mg base n_L_sized "_law_sized" s_L_sized f cdv A outer s H E).N[4]? = some ("_law_left" : Str) := rfl
  have w4 : Vis (fcx P w K mg base n_L_sized "_law_sized" s_L_sized f cdv A outer s H E).env.scope "_law_left" := by walk_at "dv"
  have l4 : Loc (fcx P w K mg base n_L_sized "_law_sized" s_L_sized f cdv A outer s H E).env.scope "_law_left" := by walk_at "dl"
  have v5 : (fcx P w K mg base n_L_sized "_law_sized" s_L_sized f cdv A outer s H E).N[5]? = some ("_law_parts" : Str) := rfl
  have w5 : Vis (fcx P w K mg base n_L_sized "_law_sized" s_L_sized f cdv A outer s H E).env.scope "_law_parts" := by walk_at "dv"
  have l5 : Loc (fcx P w K mg base n_L_sized "_law_sized" s_L_sized f cdv A outer s H E).env.scope "_law_parts" := by walk_at "dl"
  have v6 : (fcx P w K mg base n_L_sized "_law_sized" s_L_sized f cdv A outer s H E).N[6]? = some ("_law_rest" : Str) := rfl
  have w6 : Vis (fcx P w K mg base n_L_sized "_law_sized" s_L_sized f cdv A outer s H E).env.scope "_law_rest" := by walk_at "dv"
  have l6 : Loc (fcx P w K mg base n_L_sized "_law_sized" s_L_sized f cdv A outer s H E).env.scope "_law_rest" := by walk_at "dl"
  have v7 : (fcx P w K mg base n_L_sized "_law_sized" s_L_sized f cdv A outer s H E).N[7]? = some ("_law_more" : Str) := rfl
  have w7 : Vis (fcx P w K mg base n_L_sized "_law_sized" s_L_sized f cdv A outer s H E).env.scope "_law_more" := by walk_at "dv"
  have l7 : Loc (fcx P w K mg base n_L_sized "_law_sized" s_L_sized f cdv A outer s H E).env.scope "_law_more" := by walk_at "dl"
  have v8 : (fcx P w K mg base n_L_sized "_law_sized" s_L_sized f cdv A outer s H E).N[8]? = some ("_law_name" : Str) := rfl
  have w8 : Vis (fcx P w K mg base n_L_sized "_law_sized" s_L_sized f cdv A outer s H E).env.scope "_law_name" := by walk_at "dv"
  have l8 : Loc (fcx P w K mg base n_L_sized "_law_sized" s_L_sized f cdv A outer s H E).env.scope "_law_name" := by walk_at "dl"
  have nd : (fcx P w K mg base n_L_sized "_law_sized" s_L_sized f cdv A outer s H E).N.Nodup := sc_L_sized.nd
  have c_L_leaf := Fn.cal (X := (fcx P w K mg base n_L_sized "_law_sized" s_L_sized f cdv A outer s H E)) F_L_leaf hr hgd
  have c_L_next := Fn.cal (X := (fcx P w K mg base n_L_sized "_law_sized" s_L_sized f cdv A outer s H E)) F_L_next hr hgd
  have c_L_one := Fn.cal (X := (fcx P w K mg base n_L_sized "_law_sized" s_L_sized f cdv A outer s H E)) F_L_one hr hgd
  have c_L_sized := Fn.cal (X := (fcx P w K mg base n_L_sized "_law_sized" s_L_sized f cdv A outer s H E)) F_L_sized hr hgd
  have b_min := T'.b_min
  have b_range := T'.b_range
  have b_tuple := T'.b_tuple
  have rm : Rm ⟨(fcx P w K mg base n_L_sized "_law_sized" s_L_sized f cdv A outer s H E), H, dr⟩ := rm_of hr
  have gd : Gd ⟨(fcx P w K mg base n_L_sized "_law_sized" s_L_sized f cdv A outer s H E), H, dr⟩ := hgd
  rw [show List.replicate (n_L_sized.length - [("_law_drawn" : Str), ("_law_many" : Str), ("_law_limit" : Str)].length) SV.no = [.no, .no, .no, .no, .no, .no] from rfl]
  walk_at "dz"
  walk_at "d"
  refine ⟨fun h => ?_, fun h => ?_⟩
  · have h := dTr h
    walk_at "d"
    refine ⟨l, rfl, hl0, hl1, fun d hd => ⟨_, rfl, hR d ?_⟩⟩
    exact hd.mono (by omega) (by omega)
  have h := dFa h
  refine db_nil ?_
  refine db_cons ?_
  walk_at "ds"
  refine DE.mono (k := fun ev ρ1 => ∃ c : Int, ev = .dat (.int c) ∧ ρ1 = [.drw, .dat (.int m), .dat (.int l), .no, .no, .no, .no, .no, .no] ∧ 1 ≤ c ∧ c ≤ 3 ∧ c ≤ m - 1 ∧ (8 < m → 2 ≤ c)) ?_ ?_
  · walk_at "d"
    refine ⟨fun h8 => ?_, fun h8 => ?_⟩
    · have h8 := dTr h8
      walk_at "d"
      refine ⟨2, rfl, by decide, by decide, fun r h0 h1 => ?_⟩
      walk_at "d"
      exact ⟨rfl, by omega, by omega, by omega, by omega⟩
    · have h8 := dFa h8
      walk_at "d"
      refine ⟨_, rfl, ?_, ?_, fun r h0 h1 => ?_⟩
      · split <;> omega
      · split <;> omega
      walk_at "d"
      refine ⟨rfl, by omega, ?_, ?_, by omega⟩
      · split at h1 <;> omega
      · split at h1 <;> omega
  rintro ev ρ1 ⟨c, rfl, rfl, hc0, hc1, hc2, hc3⟩
  refine ⟨_, rfl, ?_⟩
  walk_at "dz"
  refine db_cons (st_parL v4 v5 nd ?_)
  walk_at "d"
  refine dl_list ?_
  walk_at "d"
  refine ds_for (di_range3 b_range ?_)
  walk_at "d"
  refine ⟨_, _, rfl, ⟨by omega, by omega, by omega, by omega⟩, ?_⟩
  refine ⟨fun i ρ => ∃ (left : Int) (ps : List PyData) (s6 s7 : SV), ρ = [.drw, .dat (.int m), .dat (.int l), .dat (.int c), .dat (.int left), .own ps, s6, s7, .no] ∧ Lp m c i left ∧ GsL (88 * (m - 1 - left).toNat) n ps ∧ ps.length = i, ?_, ?_, ?_⟩
  · refine ⟨_, _, _, _, rfl, ⟨by omega, by omega, by omega, by omega, by omega⟩, GsL.nil n |>.mono (by omega) (Nat.le_refl _), rfl⟩
  · rintro i d ρ hd ⟨left, ps, s6, s7, rfl, hL, hG, hlen⟩
    obtain ⟨hi, rfl⟩ := downFrom_get hd
    have hic : (i : Int) < c := by omega
    refine gt_name v6 l6 nd ?_
    walk_at "dz"
    refine db_cons ?_
    walk_at "ds"
    walk_at "e"
    walk_at "dz"
    refine db_seq (fun ρ => ∃ more : Int, ρ = [.drw, .dat (.int m), .dat (.int l), .dat (.int c), .dat (.int left), .own ps, .dat (.int (c - 1 - i)), .dat (.int more), .no] ∧ Mo m c i left more) ?_ ?_
    · walk_at "d"
      refine ⟨fun h1 => ?_, fun h1 => ?_⟩
      · have h1 := dTr h1
        walk_at "d"
        refine ⟨fun h8 => ?_, fun h8 => ?_⟩
        · have h8 := dTr h8
          walk_at "d"
          refine ⟨_, rfl, by have := hL.1; omega, by have := hL.2.1; omega, fun r hr0 hr1 => ?_⟩
          walk_at "d"
          exact mo_big hc1 hL (by omega) h8 hr0 hr1
        · have h8 := dFa h8
          walk_at "d"
          refine ⟨fun h2 => ?_, fun h2 => absurd h1 (dFa h2)⟩
          walk_at "d"
          refine ⟨_, rfl, by have := hL.1; omega, by have := hL.2.1; omega, fun r hr0 hr1 => ?_⟩
          walk_at "d"
          exact mo_small hL (by omega) (by omega) hr0 (by omega)
      · have h1 := dFa h1
        walk_at "d"
        refine ⟨fun h2 => absurd (dTr h2) h1, fun h2 => ?_⟩
        walk_at "d"
        exact mo_last hc0 hL (by omega) hc3
    rintro ρ ⟨more, rfl, hM⟩
    have hM1 := hM.1
    have hM2 := hM.2.1
    have hL2 := hL.2.1
    walk_at "d"
    refine me_append v5 w5 rfl ?_
    walk_at "d"
    refine ⟨_, _, rfl, hM1, mo_cap hm1 hL hM hic, by omega, hl0, hl1, fun d hd => ?_⟩
    refine ⟨_, _, rfl, rfl, by unfold sizeLine; omega, ?_⟩
    walk_at "dz"
    walk_at "d"
    walk_at "dz"
    refine ⟨_, _, _, _, rfl, lp_next hc0 hc1 hic hL hM hc3, (GsL.snoc hd hG).mono (by omega) (Nat.le_refl _), ?_⟩
    show (ps ++ [d]).length = i + 1
    rw [List.length_append, hlen]; rfl
  · rintro ρ ⟨left, ps, s6, s7, rfl, hL, hG, hlen⟩
    rw [downFrom_len] at hL hlen
    have hl00 : left = 0 := hL.2.2.1 (by omega)
    walk_at "d"
    refine dix_any (by omega) (by show c - 1 < 3; omega) fun items hit => ?_
    have hit2 : ∃ l : List Str, items = .list (l.map .str) ∧ l.all texts.contains = true ∧ l ≠ [] ∧ l.length = 3 := by
      rcases List.mem_cons.mp hit with rfl | hit
      · exact ⟨["W", "List", "W1"], rfl, by decide +kernel, by simp, rfl⟩
      rcases List.mem_cons.mp hit with rfl | hit
      · exact ⟨["P", "->", "Pair"], rfl, by decide +kernel, by simp, rfl⟩
      rcases List.mem_cons.mp hit with rfl | hit
      · exact ⟨["T", "Three", "T3"], rfl, by decide +kernel, by simp, rfl⟩
      exact nomatch hit
    obtain ⟨ls, rfl, hls, hne, hl3⟩ := hit2
    walk_at "d"
    refine ⟨_, rfl, by simpa using hne, by rw [List.length_map]; omega, fun d hd => ?_⟩
    obtain ⟨x, rfl, hx⟩ := gs_str hd hls
    walk_at "d"
    refine do_catT ?_ ?_
    · walk_at "d"
      refine hR _ ((Gs.node hx hG).mono (by omega) (Nat.le_refl _))
    · rw [List.length_singleton]; unfold sizeLine; omega
end
end K01
namespace K01
open PySem L2 DW PyProof.Rows
local macro_rules | `(tactic| walk_at "dv") => `(tactic| first | exact Or.inl rfl | exact Or.inr (Or.inl rfl) | exact Or.inr (Or.inr rfl))
local macro_rules | `(tactic| walk_at "dl") => `(tactic| first | exact Or.inl rfl | exact Or.inr rfl)
local macro_rules | `(tactic| walk_at "wv") => `(tactic| first | with_reducible assumption | walk_at "dv")
local macro_rules | `(tactic| walk_at "wa") => `(tactic| with_reducible assumption)
local macro_rules | `(tactic| walk_at "rm") => `(tactic| first | with_reducible assumption | (apply Rm.blk; with_reducible assumption))
local macro_rules | `(tactic| walk_at "dn") => `(tactic| first
  | refine nm_dat (by walk_at "wa") (by walk_at "wv") (by rfl) ?_ | refine nm_own (by walk_at "wa") (by walk_at "wv") (by rfl) ?_ | refine nm_drw (by walk_at "wa") (by walk_at "wv") (by rfl) ?_ | refine nm_scr (by walk_at "wa") (by walk_at "wv") (by rfl) ?_
  | refine de_globI (by walk_at "wa") rfl ?_ | refine de_globS (by walk_at "wa") rfl ?_)
local macro_rules | `(tactic| walk_at "dci") => `(tactic| first
  | ((with_reducible show DE _ _ (Expr.Call _ [_, Expr.Name "int" _] _ _) _); refine de_is kInt bt_int (by walk_at "wa") (by walk_at "wa") ?_)
  | ((with_reducible show DE _ _ (Expr.Call _ [_, Expr.Name "bool" _] _ _) _); refine de_is kBool bt_bool (by walk_at "wa") (by walk_at "wa") ?_)
  | ((with_reducible show DE _ _ (Expr.Call _ [_, Expr.Name "str" _] _ _) _); refine de_is kStr bt_str (by walk_at "wa") (by walk_at "wa") ?_)
  | ((with_reducible show DE _ _ (Expr.Call _ [_, Expr.Name "tuple" _] _ _) _); refine de_is kTup bt_tuple (by walk_at "wa") (by walk_at "wa") ?_)
  | ((with_reducible show DE _ _ (Expr.Call _ [_, Expr.Name "list" _] _ _) _); refine de_is kLst bt_list (by walk_at "wa") (by walk_at "wa") ?_)
  | ((with_reducible show DE _ _ (Expr.Call _ [_, Expr.Tuple [Expr.Name "tuple" _, Expr.Name "list" _] _ _] _ _) _); refine de_is2 kTup kLst bt_tuple bt_list (by walk_at "wa") (by walk_at "wa") (by walk_at "wa") ?_)
  | ((with_reducible show DE _ _ (Expr.Call _ [_, Expr.Tuple [Expr.Name "int" _, Expr.Name "tuple" _] _ _] _ _) _); refine de_is2 kInt kTup bt_int bt_tuple (by walk_at "wa") (by walk_at "wa") (by walk_at "wa") ?_))
local macro_rules | `(tactic| walk_at "dc") => `(tactic| first
  | ((with_reducible show DE _ _ (Expr.Call (Expr.Name "isinstance" _) _ _ _) _); walk_at "dci")
  | ((with_reducible show DE _ _ (Expr.Call (Expr.Name "len" _) [Expr.Name _ _] _ _) _); refine len_scr (by walk_at "wa") (by walk_at "wv") (by rfl) (by walk_at "wa") ?_)
  | ((with_reducible show DE _ _ (Expr.Call (Expr.Name "len" _) _ _ _) _); refine de_b1 bb_len (by walk_at "wa") ?_)
  | ((with_reducible show DE _ _ (Expr.Call (Expr.Name "abs" _) _ _ _) _); refine de_b1 bb_abs (by walk_at "wa") ?_)
  | ((with_reducible show DE _ _ (Expr.Call (Expr.Name "repr" _) _ _ _) _); refine de_b1 bb_repr (by walk_at "wa") ?_)
  | ((with_reducible show DE _ _ (Expr.Call (Expr.Name "all" _) _ _ _) _); refine de_b1 bb_all (by walk_at "wa") ?_)
  | ((with_reducible show DE _ _ (Expr.Call (Expr.Name "any" _) _ _ _) _); refine de_b1 bb_any (by walk_at "wa") ?_)
  | ((with_reducible show DE _ _ (Expr.Call (Expr.Name "sum" _) _ _ _) _); refine de_b1 bb_sum (by walk_at "wa") ?_)
  | ((with_reducible show DE _ _ (Expr.Call (Expr.Name "max" _) _ _ _) _); refine de_b1 bb_max (by walk_at "wa") ?_)
  | ((with_reducible show DE _ _ (Expr.Call (Expr.Name "int" _) _ _ _) _); refine de_t1 bt_int (by walk_at "wa") ?_)
  | ((with_reducible show DE _ _ (Expr.Call (Expr.Name "tuple" _) _ _ _) _); refine de_t1 bt_tuple (by walk_at "wa") ?_)
  | ((with_reducible show DE _ _ (Expr.Call (Expr.Name "min" _) _ _ _) _); refine de_b2 bb_min (by walk_at "wa") ?_)
  | ((with_reducible show DE ⟨blkX _ _ _ _ _ _ _, _, _⟩ _ _ _); refine de_fB (by walk_at "wa") ?_)
  | refine de_f (by walk_at "wa") ?_)
local macro_rules | `(tactic| walk_at "de") => `(tactic| first
  | ((with_reducible show DE _ _ (Expr.Name _ _) _); walk_at "dn")
  | ((with_reducible show DE _ _ (Expr.Call (Expr.Name _ _) _ _ _) _); walk_at "dc")
  | ((with_reducible show DE _ _ (Expr.Constant (Const.int _) _ _) _); refine de_int ?_)
  | ((with_reducible show DE _ _ (Expr.Constant (Const.str _) _ _) _); refine de_str ?_)
  | ((with_reducible show DE _ _ (Expr.Constant (Const.bool _) _ _) _); refine de_bl ?_)
  | ((with_reducible show DE _ _ (Expr.Constant Const.none _ _) _); refine de_non ?_)
  | ((with_reducible show DE _ _ (Expr.Compare _ [_] _ _) _); refine de_cmp ?_)
  | ((with_reducible show DE _ _ (Expr.Compare _ [_, _] _ _) _); refine de_chain ?_)
  | ((with_reducible show DE _ _ (Expr.BinOp (Expr.List _ _) Operator.Add _ _) _); refine DL.de (dl_op ?_))
  | ((with_reducible show DE _ _ (Expr.BinOp _ Operator.Add (Expr.List _ _) _) _); refine DL.de (dl_op ?_))
  | ((with_reducible show DE _ _ (Expr.BinOp _ _ _ _) _); refine de_op ?_)
  | ((with_reducible show DE _ _ (Expr.Dict [] [] _) _); refine de_dic0 ?_)
  | ((with_reducible show DE _ _ (Expr.List _ _) _); refine DL.de (dl_list ?_))
  | ((with_reducible show DE _ _ (Expr.Subscript _ (Expr.Slice _ _ (some _) _) _) _); refine de_revT ?_)
  | ((with_reducible show DE _ _ (Expr.Subscript (Expr.Name _ _) (Expr.Slice _ _ none _) _) _); first
    | refine de_slT (nm_dat (d := PyData.tuple _) (by walk_at "wa") (by walk_at "wv") (by rfl) ?_)
    | refine de_slS (nm_dat (d := PyData.str _) (by walk_at "wa") (by walk_at "wv") (by rfl) ?_)
    | refine DL.de (dl_slL (nm_dat (d := PyData.list _) (by walk_at "wa") (by walk_at "wv") (by rfl) ?_)))
  | ((with_reducible show DE _ _ (Expr.Subscript _ (Expr.Slice _ _ none _) _) _); refine de_slT ?_)
  | ((with_reducible show DE _ _ (Expr.Subscript (Expr.Name _ _) (Expr.Constant (Const.int _) _ _) _) _); refine de_drwIx (by walk_at "wa") (by walk_at "wv") (by rfl) (by decide) ?_)
  | ((with_reducible show DE _ _ (Expr.Subscript _ _ _) _); refine de_ix ?_)
  | ((with_reducible show DE _ _ (Expr.Tuple _ _ _) _); refine de_tuple ?_)
  | ((with_reducible show DE _ _ (Expr.BoolOp _ [_] _) _); refine de_one ?_)
  | ((with_reducible show DE _ _ (Expr.BoolOp BoolOp.And _ _) _); refine de_and ?_)
  | ((with_reducible show DE _ _ (Expr.BoolOp BoolOp.Or _ _) _); refine de_or ?_)
  | ((with_reducible show DE _ _ (Expr.UnaryOp UnaryOp.Not _ _) _); refine de_not ?_)
  | ((with_reducible show DE _ _ (Expr.UnaryOp UnaryOp.USub _ _) _); refine de_neg ?_)
  | ((with_reducible show DE _ _ (Expr.IfExp _ _ _ _) _); refine de_if ?_))
local macro_rules | `(tactic| walk_at "dop") => `(tactic| first
  | ((with_reducible show DOp _ (binaryOp Operator.Add) (PyData.int _) (PyData.int _) _); refine do_add ?_)
  | ((with_reducible show DOp _ (binaryOp Operator.Sub) (PyData.int _) (PyData.int _) _); refine do_sub ?_)
  | ((with_reducible show DOp _ (binaryOp Operator.Mult) (PyData.int _) (PyData.int _) _); first | refine do_mul ?_ (by first | exact Or.inl ⟨by decide, by decide⟩ | exact Or.inr ⟨by decide, by decide⟩) | refine do_mul ?_ ?_)
  | ((with_reducible show DOp _ (binaryOp Operator.FloorDiv) (PyData.int _) (PyData.int _) _); first | refine do_fdiv ?_ ⟨by first | decide | with_reducible assumption | omega, by first | decide | with_reducible assumption | omega⟩ | refine do_fdiv ?_ ?_)
  | ((with_reducible show DOp _ (binaryOp Operator.Mod) (PyData.int _) (PyData.int _) _); first | refine do_mod ?_ (by first | decide | with_reducible assumption | omega) | refine do_mod ?_ ?_)
  | ((with_reducible show DOp _ (binaryOp Operator.Pow) (PyData.int _) (PyData.int _) _); first | refine do_pow ?_ ⟨by decide, by decide, by decide⟩ | refine do_pow ?_ ?_)
  | ((with_reducible show DOp _ (compareOp CmpOp.Lt) (PyData.int _) (PyData.int _) _); refine do_lt ?_)
  | ((with_reducible show DOp _ (compareOp CmpOp.LtE) (PyData.int _) (PyData.int _) _); refine do_le ?_)
  | ((with_reducible show DOp _ (compareOp CmpOp.Gt) (PyData.int _) (PyData.int _) _); refine do_gt ?_)
  | ((with_reducible show DOp _ (compareOp CmpOp.GtE) (PyData.int _) (PyData.int _) _); refine do_ge ?_)
  | ((with_reducible show DOp _ (compareOp CmpOp.Eq) (PyData.int _) (PyData.int _) _); refine do_eqI ?_)
  | ((with_reducible show DOp _ (compareOp CmpOp.NotEq) (PyData.int _) (PyData.int _) _); refine do_neI ?_)
  | ((with_reducible show DOp _ (compareOp CmpOp.Eq) (PyData.str _) (PyData.str _) _); refine do_eqS ?_)
  | ((with_reducible show DOp _ (compareOp CmpOp.NotEq) (PyData.str _) (PyData.str _) _); refine do_neS ?_)
  | ((with_reducible show DOp _ (compareOp CmpOp.Eq) (PyData.bool _) (PyData.bool _) _); refine do_eqB ?_)
  | ((with_reducible show DOp _ (compareOp CmpOp.NotEq) (PyData.bool _) (PyData.bool _) _); refine do_neB ?_)
  | ((with_reducible show DOp _ (compareOp CmpOp.NotEq) (PyData.list _) (PyData.list []) _); refine do_neL0 (by walk_at "rm") ?_)
  | ((with_reducible show DOp _ (compareOp CmpOp.Eq) (PyData.list _) (PyData.list []) _); refine do_eqL0 (by walk_at "rm") ?_)
  | ((with_reducible show DOp _ (compareOp CmpOp.Eq) (PyData.tuple _) (PyData.tuple []) _); refine do_eqT0 (by walk_at "rm") ?_)
  | ((with_reducible show DOp _ (compareOp CmpOp.Is) _ PyData.none _); refine do_isN ?_)
  | ((with_reducible show DOp _ (compareOp CmpOp.IsNot) _ PyData.none _); refine do_notN ?_)
  | ((with_reducible show DOp _ (compareOp CmpOp.In) (PyData.str ⟨#[_]⟩) (PyData.str _) _); refine do_inS ?_)
  | ((with_reducible show DOp _ (compareOp CmpOp.NotIn) (PyData.str ⟨#[_]⟩) (PyData.str _) _); refine do_ninS ?_))
local macro_rules | `(tactic| walk_at "dca") => `(tactic| first
  | ((with_reducible show DCall _ (Value.builtin "len") [PyData.tuple _] _); refine dc_len (n := List.length _) ?_ rfl)
  | ((with_reducible show DCall _ (Value.builtin "len") [PyData.list _] _); refine dc_len (n := List.length _) ?_ rfl)
  | ((with_reducible show DCall _ (Value.builtin "len") [PyData.str _] _); refine dc_len ?_ ⟨rfl, ?_⟩)
  | ((with_reducible show DCall _ (Value.builtin "abs") _ _); refine dc_abs ?_)
  | ((with_reducible show DCall _ (Value.builtin "min") _ _); refine dc_min2 rfl ?_)
  | ((with_reducible show DCall _ (Value.type "int") [PyData.bool _] _); refine dc_intB ?_)
  | ((with_reducible show DCall _ (Value.type "tuple") [PyData.list _] _); refine dc_tupL ?_)
  | ((with_reducible show DCall _ (Value.type "tuple") [PyData.tuple _] _); refine dc_tupT ?_))
local macro_rules | `(tactic| walk_at "dix") => `(tactic| first
  | ((with_reducible show DIx _ _ (PyData.int 0) _); first | refine dix_t0 ?_ | refine dix_l0 ?_)
  | ((with_reducible show DIx _ _ (PyData.int 1) _); first | refine dix_t1 ?_ | refine dix_l1 ?_)
  | ((with_reducible show DIx _ _ (PyData.int 2) _); first | refine dix_t2 ?_ | refine dix_l2 ?_))
local macro_rules | `(tactic| walk_at "dt") => `(tactic| first
  | ((with_reducible show DT _ _ (Expr.BoolOp BoolOp.And _ _) _); refine DW.DW.dt (dw_and ?_))
  | ((with_reducible show DT _ _ (Expr.BoolOp BoolOp.Or _ _) _); refine DW.DW.dt (dw_or ?_))
  | ((with_reducible show DT _ _ (Expr.Compare _ [_] _ _) _); refine dt_cmp ?_)
  | ((with_reducible show DT _ _ (Expr.Compare _ [_, _] _ _) _); refine dt_chain ?_)
  | ((with_reducible show DT _ _ (Expr.UnaryOp UnaryOp.Not _ _) _); refine dt_not ?_)
  | refine dt_val ?_)
local macro_rules | `(tactic| walk_at "d1") => `(tactic| first
  | ((with_reducible show DE _ _ _ _); walk_at "de")
  | ((with_reducible show DT _ _ _ _); walk_at "dt")
  | ((with_reducible show DOp _ _ _ _ _); walk_at "dop")
  | ((with_reducible show DOpL _ (binaryOp Operator.Add) (PyData.list _) (PyData.list _) _); refine dol_cat ?_ ?_)
  | ((with_reducible show DCall _ _ _ _); walk_at "dca")
  | ((with_reducible show DIx _ _ _ _); walk_at "dix")
  | ((with_reducible show DW.DW _ _ (Expr.BoolOp BoolOp.And [_] _) _); refine dw_and1 ?_)
  | ((with_reducible show DW.DW _ _ (Expr.BoolOp BoolOp.Or [_] _) _); refine dw_or1 ?_)
  | ((with_reducible show DW.DW _ _ (Expr.BoolOp BoolOp.And _ _) _); refine dw_and ?_)
  | ((with_reducible show DW.DW _ _ (Expr.BoolOp BoolOp.Or _ _) _); refine dw_or ?_)
  | ((with_reducible show DAd _ _ [] _); refine dad_nil ?_)
  | ((with_reducible show DAd _ _ _ _); refine dad_cons ?_)
  | ((with_reducible show DAv _ _ [] _); refine dav_nil ?_)
  | ((with_reducible show DAv _ _ _ _); refine dav_cons ?_)
  | ((with_reducible show DO _ _ none _); refine do_none ?_)
  | ((with_reducible show DO _ _ _ _); refine do_some ?_)
  | ((with_reducible show ∃ dx dy, DatOf _ (EV.dat _) dx ∧ DatOf _ (EV.dat _) dy ∧ _); refine ⟨_, _, .dat, .dat, ?_⟩)
  | ((with_reducible show ∃ dx dy, DatOf _ (EV.dat _) dx ∧ (EV.dat _) = EV.dat dy ∧ _); refine ⟨_, _, .dat, rfl, ?_⟩)
  | ((with_reducible show ∃ dx dy, DatOf _ _ dx ∧ DatOf _ _ dy ∧ _); first | refine ⟨_, _, .own rfl, .dat, ?_⟩ | refine ⟨_, _, .dat, .own rfl, ?_⟩ | refine ⟨_, _, .own rfl, .own rfl, ?_⟩)
  | ((with_reducible show ∃ dx, DatOf _ (EV.dat _) dx ∧ _); refine ⟨_, .dat, ?_⟩)
  | ((with_reducible show ∃ dx, DatOf _ _ dx ∧ _); refine ⟨_, .own rfl, ?_⟩)
  | ((with_reducible show ∃ d, _ = _ ∧ _); refine ⟨_, rfl, ?_⟩)
  | ((with_reducible show ∃ av : AV, _ ∧ _); first | refine ⟨_, Or.inl ⟨rfl, rfl⟩, ?_⟩ | refine ⟨_, Or.inr ⟨_, rfl, rfl⟩, ?_⟩))
local macro_rules | `(tactic| walk_at "db") => `(tactic| first
  | refine ⟨fun _ => ?_, fun h => Bool.noConfusion h⟩ | refine ⟨fun h => Bool.noConfusion h, fun _ => ?_⟩)
local macro_rules | `(tactic| walk_at "dst") => `(tactic| first
  | ((with_reducible show DS _ _ (Stmt.If _ _ _ _) _ _ _ _); refine ds_if ?_)
  | ((with_reducible show DS _ _ (Stmt.Expr _ _) _ _ _ _); refine ds_expr ?_)
  | ((with_reducible show DS _ _ (Stmt.Pass _) _ _ _ _); refine ds_pass ?_)
  | ((with_reducible show DS _ _ (Stmt.Assign [Expr.Subscript (Expr.Name _ _) (Expr.Constant (Const.int _) _ _) _] _ _) _ _ _ _); refine ds_drwSet (by walk_at "wa") (by walk_at "wv") ?_)
  | ((with_reducible show DS _ _ (Stmt.Return (some (Expr.ListComp _ _ _ _)) _) _ _ _ _); refine ds_retL ?_)
  | ((with_reducible show DS _ _ (Stmt.Return (some (Expr.List _ _)) _) _ _ _ _); refine ds_retL (dl_list ?_))
  | ((with_reducible show DS _ _ (Stmt.Return (some (Expr.Name _ _)) _) _ _ _ _); first
    | refine ds_ret (nm_dat (by walk_at "wa") (by walk_at "wv") (by rfl) ?_)
    | refine ds_retO (nm_own (by walk_at "wa") (by walk_at "wv") (by rfl) ⟨_, _, rfl, rfl, ?_⟩)
    | refine ds_ret ?_)
  | ((with_reducible show DS _ _ (Stmt.Return (some _) _) _ _ _ _); refine ds_ret ?_)
  | ((with_reducible show DS _ _ (Stmt.Assign [Expr.Name _ _] _ _) _ _ _ _); (fail_if_success (with_reducible show DS _ _ (Stmt.Assign [Expr.Name _ _] (Expr.ListComp _ _ _ _) _) _ _ _ _)); (fail_if_success (with_reducible show DS _ _ (Stmt.Assign [Expr.Name _ _] (Expr.List _ _) _) _ _ _ _)); refine st_set (by walk_at "wa") (by walk_at "wa") (by walk_at "wa") ?_))
local macro_rules | `(tactic| walk_at "e") => `(tactic| repeat (first | walk_at "d1" | walk_at "db"))
local macro_rules | `(tactic| walk_at "d") => `(tactic| repeat (first | walk_at "d1" | walk_at "db" | ((with_reducible show DS _ _ _ _ _ _ _); walk_at "dst") | ((with_reducible show DB _ _ [] _ _ _ _); refine db_nil ?_) | ((with_reducible show DB _ _ _ _ _ _ _); refine db_cons ?_)))
local macro_rules | `(tactic| walk_at "ds") => `(tactic| refine st_set (by walk_at "wa") (by walk_at "wa") (by walk_at "wa") ?_)
local macro_rules | `(tactic| walk_at "dsl") => `(tactic| refine st_setL (by walk_at "wa") (by walk_at "wa") (by walk_at "wa") ?_)
local macro_rules | `(tactic| walk_at "dz") => `(tactic| dsimp (config := { proj := false }) only [List.set, List.map, List.replicate, List.cons_append, List.nil_append, AV.sv])
section
variable {P : Program} {w : World} {K : PySem.W.Frag} {mg : Str → Option Value} {base : Heap}
def fs_L_tower : FS := fun avs R => ∃ (m : Int) (d : PyData) (w k : Nat), avs = [.drw, .dat (.int m), .dat d] ∧ 0 ≤ m ∧ m ≤ 40 ∧ 1 ≤ k ∧ Gs w k d ∧ ∀ d', Gs (w + 320 * m.toNat) (k + m.toNat) d' → R (.dat d')
theorem ok_L_tower {k : Nat} (T : Tp K mg) (F_L_one : Fn P w K mg base k "_law_one" fs_L_one) : Fn P w K mg base (k + 1) "_law_tower" fs_L_tower := by
  refine T.d_L_tower.ok sc_L_tower (fun avs R h => ?_) (fun f cdv A outer s H E dr avs R hr hgd h => ?_)
  · obtain ⟨_, _, _, _, rfl, _⟩ := h
    rfl
  obtain ⟨m, d, wA, kA, rfl, hm0, hm1, hk, hG, hR⟩ := h
  have T' : Tp (fcx P w K mg base n_L_tower "_law_tower" s_L_tower f cdv A outer s H E).K (fcx P w K mg base n_L_tower "_law_tower" s_L_tower f cdv A outer s H E).mg := T
  have v0 : (fcx P w K mg base n_L_tower "_law_tower" s_L_tower f cdv A outer s H E).N[0]? = some ("_law_drawn" : Str) := rfl
  have w0 : Vis (fcx P w K mg base n_L_tower "_law_tower" s_L_tower f cdv A outer s H E).env.scope "_law_drawn" := by walk_at "dv"
  have l0 : Loc (fcx P w K mg base n_L_tower "_law_tower" s_L_tower f cdv A outer s H E).env.scope "_law_drawn" := by walk_at "dl"
  have v1 : (fcx P w K mg base n_L_tower "_law_tower" s_L_tower f cdv A outer s H E).N[1]? = some ("_law_many" : Str) := rfl
  have w1 : Vis (fcx P w K mg base n_L_tower "_law_tower" s_L_tower f cdv A outer s H E).env.scope "_law_many" := by walk_at "dv"
  have l1 : Loc (fcx P w K mg base n_L_tower "_law_tower" s_L_tower f cdv A outer s H E).env.scope "_law_many" := by walk_at "dl"
  have v2 : (fcx P w K mg base n_L_tower "_law_tower" s_L_tower f cdv A outer s H E).N[2]? = some ("_law_shape" : Str) := rfl
  have w2 : Vis (fcx P w K mg base n_L_tower "_law_tower" s_L_tower f cdv A outer s H E).env.scope "_law_shape" := by walk_at "dv"
  have l2 : Loc (fcx P w K mg base n_L_tower "_law_tower" s_L_tower f cdv A outer s H E).env.scope "_law_shape" := by walk_at "dl"
  have v3 : (fcx P w K mg base n_L_tower "_law_tower" s_L_tower f cdv A outer s H E).N[3]? = some ("_law_k" : Str) := rfl
  have w3 : Vis (fcx P w K mg base n_L_tower "_law_tower" s_L_tower f cdv A outer s H E).env.scope "_law_k" := by walk_at "dv"
  have l3 : Loc (fcx P w K mg base n_L_tower "_law_tower" s_L_tower f cdv A outer s H E).env.scope "_law_k" := by walk_at "dl"
  have nd : (fcx P w K mg base n_L_tower "_law_tower" s_L_tower f cdv A outer s H E).N.Nodup := sc_L_tower.nd
  have c_L_one := Fn.cal (X := (fcx P w K mg base n_L_tower "_law_tower" s_L_tower f cdv A outer s H E)) F_L_one hr hgd
  have b_range := T'.b_range
  have rm : Rm ⟨(fcx P w K mg base n_L_tower "_law_tower" s_L_tower f cdv A outer s H E), H, dr⟩ := rm_of hr
  have gd : Gd ⟨(fcx P w K mg base n_L_tower "_law_tower" s_L_tower f cdv A outer s H E), H, dr⟩ := hgd
  rw [show List.replicate (n_L_tower.length - [("_law_drawn" : Str), ("_law_many" : Str), ("_law_shape" : Str)].length) SV.no = [.no] from rfl]
  walk_at "dz"
  walk_at "d"
  refine ds_for (di_range1 b_range rfl ?_)
  walk_at "d"
  refine ⟨by omega, by omega, fun i ρ => ∃ (d' : PyData) (s3 : SV), ρ = [.drw, .dat (.int m), .dat d', s3] ∧ Gs (wA + 320 * i) (kA + i) d', ⟨d, .no, rfl, hG.mono (by omega) (by omega)⟩, ?_, ?_⟩
  · rintro i e ρ he ⟨d', s3, rfl, hd⟩
    obtain ⟨hi, rfl⟩ := upTo_get he
    refine gt_name v3 l3 nd ?_
    walk_at "dz"
    walk_at "d"
    refine ⟨_, rfl, by simp, by simp, fun z hz => ?_⟩
    have hz2 : Gs (wA + 320 * (i + 1)) (kA + (i + 1)) z := by
      have i0 : Gs 44 (kA + i) (.int 0) := (Gs.int (by decide) (by decide)).mono (Nat.le_refl _) (by omega)
      have i1 : Gs 44 (kA + i) (.int 1) := (Gs.int (by decide) (by decide)).mono (Nat.le_refl _) (by omega)
      have iA : Gs 88 (kA + i) (.tuple [.str "A"]) := (Gs.unit (by decide +kernel)).mono (Nat.le_refl _) (by omega)
      rcases List.mem_cons.mp hz with rfl | hz
      · exact (Gs.node (x := "W") (by decide +kernel) (GsL.cons hd (GsL.nil _))).mono (by omega) (by omega)
      rcases List.mem_cons.mp hz with rfl | hz
      · exact (Gs.node (x := "P") (by decide +kernel) (GsL.cons hd (GsL.cons i0 (GsL.nil _)))).mono (by omega) (by omega)
      rcases List.mem_cons.mp hz with rfl | hz
      · exact (Gs.node (x := "->") (by decide +kernel) (GsL.cons i1 (GsL.cons hd (GsL.nil _)))).mono (by omega) (by omega)
      rcases List.mem_cons.mp hz with rfl | hz
      · exact (Gs.node (x := "T") (by decide +kernel) (GsL.cons i0 (GsL.cons hd (GsL.cons iA (GsL.nil _))))).mono (by omega) (by omega)
      exact nomatch hz
    walk_at "d"
    walk_at "dz"
    exact ⟨_, _, rfl, hz2⟩
  · rintro ρ ⟨d', s3, rfl, hd⟩
    rw [upTo_len] at hd
    walk_at "d"
    exact hR d' hd
/-! ### _law_other -/
theorem gdas_app (a b : List PyData) : gdas (a ++ b) = (gdas a && gdas b) := by
  induction a with
  | nil => rw [gdas]; rfl
  | cons d a ih => rw [List.cons_append, gdas, gdas, ih, Bool.and_assoc]
theorem wts_app (a b : List PyData) : wts (a ++ b) = wts a + wts b := by
  induction a with
  | nil => rw [wts, Nat.zero_add]; rfl
  | cons d a ih => rw [List.cons_append, wts, wts, ih, Nat.add_assoc]
theorem dps_app (a b : List PyData) : PyData.depthAll (a ++ b) = max (PyData.depthAll a) (PyData.depthAll b) := by
  induction a with
  | nil => rw [PyData.depthAll]; simp
  | cons d a ih => rw [List.cons_append, PyData.depthAll, PyData.depthAll, ih, Nat.max_assoc]
theorem hds_app (a b : List PyData) : PyData.hasDictAll (a ++ b) = (PyData.hasDictAll a || PyData.hasDictAll b) := by
  induction a with
  | nil => rw [PyData.hasDictAll]; rfl
  | cons d a ih => rw [List.cons_append, PyData.hasDictAll, PyData.hasDictAll, ih, Bool.or_assoc]
theorem nls_app (a b : List PyData) : noLists (a ++ b) = (noLists a && noLists b) := by
  induction a with
  | nil => rw [noLists]; rfl
  | cons d a ih => rw [List.cons_append, noLists, noLists, ih, Bool.and_assoc]
/-- sh with part put in -/
structure Ot (sh part d : PyData) : Prop where
  g : gda sh = true → gda part = true → gda d = true
  w : wt d ≤ wt sh + wt part
  dp : d.depth ≤ sh.depth + part.depth
  nd : sh.hasDict = false → part.hasDict = false → d.hasDict = false
  nl : noList sh = true → noList part = true → noList d = true
theorem Ot.self (sh part : PyData) : Ot sh part part := ⟨fun _ h => h, by omega, by omega, fun _ h => h, fun _ h => h⟩
theorem Ot.put {a b : List PyData} {e part d : PyData} (h : Ot e part d) : Ot (.tuple (a ++ e :: b)) part (.tuple (a ++ [d] ++ b)) := by
  refine ⟨fun h1 h2 => ?_, ?_, ?_, fun h1 h2 => ?_, fun h1 h2 => ?_⟩
  · rw [gda, gdas_app, gdas, Bool.and_eq_true, Bool.and_eq_true] at h1
    rw [gda, gdas_app, gdas_app, gdas, gdas, h1.1, h1.2.2, h.g h1.2.1 h2]
    rfl
  · rw [wt, wt, wts_app, wts_app, wts_app, wts, wts, wts]
    have := h.w
    omega
  · rw [PyData.depth, PyData.depth, dps_app, dps_app, dps_app, PyData.depthAll, PyData.depthAll, PyData.depthAll]
    have := h.dp
    omega
  · rw [PyData.hasDict, hds_app, PyData.hasDictAll, Bool.or_eq_false_iff, Bool.or_eq_false_iff] at h1
    rw [PyData.hasDict, hds_app, hds_app, PyData.hasDictAll, PyData.hasDictAll, h1.1, h1.2.2, h.nd h1.2.1 h2]
    rfl
  · rw [noList, nls_app, noLists, Bool.and_eq_true, Bool.and_eq_true] at h1
    rw [noList, nls_app, nls_app, noLists, noLists, h1.1, h1.2.2, h.nl h1.2.1 h2]
    rfl
theorem tls_get : ∀ {ds : List PyData} {i : Nat} {d : PyData}, tls ds = true → ds[i]? = some d → tl d = true
  | [], i, d, _, e => by simp at e
  | x :: ds, 0, d, h, e => by
    rw [tls, Bool.and_eq_true] at h
    simp at e
    exact e ▸ h.1
  | x :: ds, i + 1, d, h, e => by
    rw [tls, Bool.and_eq_true] at h
    exact tls_get h.2 (by simpa using e)
theorem wts_len : ∀ ds : List PyData, 44 * ds.length ≤ wts ds
  | [] => by rw [wts]; exact Nat.le_refl _
  | d :: ds => by
    rw [wts, List.length_cons]
    have := wts_len ds
    have h1 : 44 ≤ wt d := by
      unfold wt
      split <;> omega
    omega
theorem split_at {xs : List PyData} {j : Nat} {e : PyData} (h : xs[j]? = some e) : xs = xs.take j ++ e :: xs.drop (j + 1) := by
  obtain ⟨hj, he⟩ := List.getElem?_eq_some_iff.mp h
  rw [← he, ← List.drop_eq_getElem_cons hj, List.take_append_drop]
def fs_L_other (n : Nat) : FS := fun avs R => ∃ sh part : PyData, avs = [.drw, .dat sh, .dat part] ∧ tl sh = true ∧ sh.depth < n ∧ wt sh ≤ 100000 ∧ ∀ d, Ot sh part d → R (.dat d)
theorem none_L_other {avs : List AV} {R : RV → Prop} (h : fs_L_other 0 avs R) : False := by
  obtain ⟨_, _, _, _, h, _⟩ := h
  omega
theorem tl_cases {d : PyData} (h : tl d = true) : (∃ i, d = .int i) ∨ ∃ e ds, d = .tuple (e :: ds) ∧ tls ds = true := by
  unfold tl at h
  split at h
  · exact .inl ⟨_, rfl⟩
  · exact .inr ⟨_, _, rfl, h⟩
  · exact nomatch h
theorem ok_L_other {b : Nat} (T : Tp K mg) (G_L_next : Fn P w K mg base b "_law_next" fs_L_next) (n : Nat) : Fn P w K mg base (b + n) "_law_other" (fs_L_other n) := by
  induction n with
  | zero => exact T.d_L_other.none (fun avs R h => none_L_other h)
  | succ n F_L_other =>
  have F_L_next := G_L_next.mono (Nat.le_add_right b n)
  refine T.d_L_other.ok sc_L_other (fun avs R h => ?_) (fun f cdv A outer s H E dr avs R hr hgd h => ?_)
  · obtain ⟨_, _, rfl, _⟩ := h
    rfl
  obtain ⟨sh, part, rfl, ht, hdp, hw, hR⟩ := h
  have T' : Tp (fcx P w K mg base n_L_other "_law_other" s_L_other f cdv A outer s H E).K (fcx P w K mg base n_L_other "_law_other" s_L_other f cdv A outer s H E).mg := T
  have v0 : (fcx P w K mg base n_L_other "_law_other" s_L_other f cdv A outer s H E).N[0]? = some ("_law_drawn" : Str) := rfl
  have w0 : Vis (fcx P w K mg base n_L_other "_law_other" s_L_other f cdv A outer s H E).env.scope "_law_drawn" := by walk_at "dv"
  have l0 : Loc (fcx P w K mg base n_L_other "_law_other" s_L_other f cdv A outer s H E).env.scope "_law_drawn" := by walk_at "dl"
  have v1 : (fcx P w K mg base n_L_other "_law_other" s_L_other f cdv A outer s H E).N[1]? = some ("_law_shape" : Str) := rfl
  have w1 : Vis (fcx P w K mg base n_L_other "_law_other" s_L_other f cdv A outer s H E).env.scope "_law_shape" := by walk_at "dv"
  have l1 : Loc (fcx P w K mg base n_L_other "_law_other" s_L_other f cdv A outer s H E).env.scope "_law_shape" := by walk_at "dl"
  have v2 : (fcx P w K mg base n_L_other "_law_other" s_L_other f cdv A outer s H E).N[2]? = some ("_law_part" : Str) := rfl
  have w2 : Vis (fcx P w K mg base n_L_other "_law_other" s_L_other f cdv A outer s H E).env.scope "_law_part" := by walk_at "dv"
  have l2 : Loc (fcx P w K mg base n_L_other "_law_other" s_L_other f cdv A outer s H E).env.scope "_law_part" := by walk_at "dl"
  have v3 : (fcx P w K mg base n_L_other "_law_other" s_L_other f cdv A outer s H E).N[3]? = some ("_law_spot" : Str) := rfl
  have w3 : Vis (fcx P w K mg base n_L_other "_law_other" s_L_other f cdv A outer s H E).env.scope "_law_spot" := by walk_at "dv"
  have l3 : Loc (fcx P w K mg base n_L_other "_law_other" s_L_other f cdv A outer s H E).env.scope "_law_spot" := by walk_at "dl"
  have nd : (fcx P w K mg base n_L_other "_law_other" s_L_other f cdv A outer s H E).N.Nodup := sc_L_other.nd
  have c_L_next := Fn.cal (X := (fcx P w K mg base n_L_other "_law_other" s_L_other f cdv A outer s H E)) F_L_next hr hgd
  have c_L_other := Fn.cal (X := (fcx P w K mg base n_L_other "_law_other" s_L_other f cdv A outer s H E)) F_L_other hr hgd
  have b_int := T'.b_int
  have b_isinstance := T'.b_isinstance
  have b_len := T'.b_len
  have rm : Rm ⟨(fcx P w K mg base n_L_other "_law_other" s_L_other f cdv A outer s H E), H, dr⟩ := rm_of hr
  have gd : Gd ⟨(fcx P w K mg base n_L_other "_law_other" s_L_other f cdv A outer s H E), H, dr⟩ := hgd
  rw [show List.replicate (n_L_other.length - [("_law_drawn" : Str), ("_law_shape" : Str), ("_law_part" : Str)].length) SV.no = [.no] from rfl]
  walk_at "dz"
  rcases tl_cases ht with ⟨i, rfl⟩ | ⟨hd, ds, rfl, hts⟩
  · walk_at "d"
    exact hR _ (Ot.self _ _)
  · have hl := wts_len ds
    rw [wt, wts] at hw
    walk_at "d"
    refine ⟨fun h1 => ?_, fun h1 => ?_⟩
    · walk_at "d"
      exact hR _ (Ot.self _ _)
    have h1 := dFa h1
    rw [List.length_cons] at h1
    walk_at "d"
    refine ⟨4, rfl, by decide, by decide, fun r hr0 hr1 => ?_⟩
    walk_at "d"
    refine ⟨fun h2 => ?_, fun h2 => ?_⟩
    · walk_at "d"
      exact hR _ (Ot.self _ _)
    walk_at "d"
    refine ⟨_, rfl, by rw [List.length_cons]; omega, by rw [List.length_cons]; omega, fun r hr0 hr1 => ?_⟩
    rw [List.length_cons] at hr1
    obtain ⟨j, rfl⟩ := Int.eq_ofNat_of_zero_le hr0
    have hj : j < ds.length := by omega
    have e1 : (1 : Int) + (j : Int) = ((j + 1 : Nat) : Int) := by omega
    have e2 : ((j + 1 : Nat) : Int) + 1 = ((j + 1 + 1 : Nat) : Int) := by omega
    have hg : (hd :: ds)[j + 1]? = some ds[j] := by rw [List.getElem?_cons_succ]; exact List.getElem?_eq_getElem hj
    have hg2 : ds[j]? = some ds[j] := List.getElem?_eq_getElem hj
    have hm := List.getElem_mem hj
    walk_at "d"
    rw [e1, cut_take]
    refine dix_tup (atI_nat hg) ?_
    walk_at "d"
    refine ⟨_, _, rfl, tls_get hts hg2, ?_, ?_, fun d hd2 => ?_⟩
    · have := depth_mem hm
      rw [PyData.depth, PyData.depthAll] at hdp
      omega
    · have h3 := split_at hg2
      have h4 : wts ds = wts (ds.take j) + (wt ds[j] + wts (ds.drop (j + 1))) := by
        rw [← wts, ← wts_app, ← h3]
      omega
    walk_at "d"
    refine do_catT ?_ ?_
    · walk_at "d"
      refine do_catT ?_ ?_
      · walk_at "d"
        rw [e2, cut_drop]
        have h5 := Ot.put (a := (hd :: ds).take (j + 1)) (b := (hd :: ds).drop (j + 1 + 1)) hd2
        rw [← split_at hg] at h5
        exact hR _ h5
      · rw [e2, cut_drop, List.length_append, List.length_take, List.length_drop, List.length_singleton, List.length_cons]
        unfold sizeLine; omega
    · rw [List.length_take, List.length_singleton, List.length_cons]
      unfold sizeLine; omega
end
end K01
namespace K01
open PySem L2 DW PyProof.Rows
local macro_rules | `(tactic| walk_at "dv") => `(tactic| first | exact Or.inl rfl | exact Or.inr (Or.inl rfl) | exact Or.inr (Or.inr rfl))
local macro_rules | `(tactic| walk_at "dl") => `(tactic| first | exact Or.inl rfl | exact Or.inr rfl)
local macro_rules | `(tactic| walk_at "wv") => `(tactic| first | with_reducible assumption | walk_at "dv")
local macro_rules | `(tactic| walk_at "wa") => `(tactic| with_reducible assumption)
local macro_rules | `(tactic| walk_at "rm") => `(tactic| first | with_reducible assumption | (apply Rm.blk; with_reducible assumption))
local macro_rules | `(tactic| walk_at "dn") => `(tactic| first
  | refine nm_dat (by walk_at "wa") (by walk_at "wv") (by rfl) ?_ | refine nm_own (by walk_at "wa") (by walk_at "wv") (by rfl) ?_ | refine nm_drw (by walk_at "wa") (by walk_at "wv") (by rfl) ?_ | refine nm_scr (by walk_at "wa") (by walk_at "wv") (by rfl) ?_
  | refine de_globI (by walk_at "wa") rfl ?_ | refine de_globS (by walk_at "wa") rfl ?_)
local macro_rules | `(tactic| walk_at "dci") => `(tactic| first
  | ((with_reducible show DE _ _ (Expr.Call _ [_, Expr.Name "int" _] _ _) _); refine de_is kInt bt_int (by walk_at "wa") (by walk_at "wa") ?_)
  | ((with_reducible show DE _ _ (Expr.Call _ [_, Expr.Name "bool" _] _ _) _); refine de_is kBool bt_bool (by walk_at "wa") (by walk_at "wa") ?_)
  | ((with_reducible show DE _ _ (Expr.Call _ [_, Expr.Name "str" _] _ _) _); refine de_is kStr bt_str (by walk_at "wa") (by walk_at "wa") ?_)
  | ((with_reducible show DE _ _ (Expr.Call _ [_, Expr.Name "tuple" _] _ _) _); refine de_is kTup bt_tuple (by walk_at "wa") (by walk_at "wa") ?_)
  | ((with_reducible show DE _ _ (Expr.Call _ [_, Expr.Name "list" _] _ _) _); refine de_is kLst bt_list (by walk_at "wa") (by walk_at "wa") ?_)
  | ((with_reducible show DE _ _ (Expr.Call _ [_, Expr.Tuple [Expr.Name "tuple" _, Expr.Name "list" _] _ _] _ _) _); refine de_is2 kTup kLst bt_tuple bt_list (by walk_at "wa") (by walk_at "wa") (by walk_at "wa") ?_)
  | ((with_reducible show DE _ _ (Expr.Call _ [_, Expr.Tuple [Expr.Name "int" _, Expr.Name "tuple" _] _ _] _ _) _); refine de_is2 kInt kTup bt_int bt_tuple (by walk_at "wa") (by walk_at "wa") (by walk_at "wa") ?_))
local macro_rules | `(tactic| walk_at "dc") => `(tactic| first
  | ((with_reducible show DE _ _ (Expr.Call (Expr.Name "isinstance" _) _ _ _) _); walk_at "dci")
  | ((with_reducible show DE _ _ (Expr.Call (Expr.Name "len" _) [Expr.Name _ _] _ _) _); refine len_scr (by walk_at "wa") (by walk_at "wv") (by rfl) (by walk_at "wa") ?_)
  | ((with_reducible show DE _ _ (Expr.Call (Expr.Name "len" _) _ _ _) _); refine de_b1 bb_len (by walk_at "wa") ?_)
  | ((with_reducible show DE _ _ (Expr.Call (Expr.Name "abs" _) _ _ _) _); refine de_b1 bb_abs (by walk_at "wa") ?_)
  | ((with_reducible show DE _ _ (Expr.Call (Expr.Name "repr" _) _ _ _) _); refine de_b1 bb_repr (by walk_at "wa") ?_)
  | ((with_reducible show DE _ _ (Expr.Call (Expr.Name "all" _) _ _ _) _); refine de_b1 bb_all (by walk_at "wa") ?_)
  | ((with_reducible show DE _ _ (Expr.Call (Expr.Name "any" _) _ _ _) _); refine de_b1 bb_any (by walk_at "wa") ?_)
  | ((with_reducible show DE _ _ (Expr.Call (Expr.Name "sum" _) _ _ _) _); refine de_b1 bb_sum (by walk_at "wa") ?_)
  | ((with_reducible show DE _ _ (Expr.Call (Expr.Name "max" _) _ _ _) _); refine de_b1 bb_max (by walk_at "wa") ?_)
  | ((with_reducible show DE _ _ (Expr.Call (Expr.Name "int" _) _ _ _) _); refine de_t1 bt_int (by walk_at "wa") ?_)
  | ((with_reducible show DE _ _ (Expr.Call (Expr.Name "tuple" _) _ _ _) _); refine de_t1 bt_tuple (by walk_at "wa") ?_)
  | ((with_reducible show DE _ _ (Expr.Call (Expr.Name "min" _) _ _ _) _); refine de_b2 bb_min (by walk_at "wa") ?_)
  | ((with_reducible show DE ⟨blkX _ _ _ _ _ _ _, _, _⟩ _ _ _); refine de_fB (by walk_at "wa") ?_)
  | refine de_f (by walk_at "wa") ?_)
local macro_rules | `(tactic| walk_at "de") => `(tactic| first
  | ((with_reducible show DE _ _ (Expr.Name _ _) _); walk_at "dn")
  | ((with_reducible show DE _ _ (Expr.Call (Expr.Name _ _) _ _ _) _); walk_at "dc")
  | ((with_reducible show DE _ _ (Expr.Constant (Const.int _) _ _) _); refine de_int ?_)
  | ((with_reducible show DE _ _ (Expr.Constant (Const.str _) _ _) _); refine de_str ?_)
  | ((with_reducible show DE _ _ (Expr.Constant (Const.bool _) _ _) _); refine de_bl ?_)
  | ((with_reducible show DE _ _ (Expr.Constant Const.none _ _) _); refine de_non ?_)
  | ((with_reducible show DE _ _ (Expr.Compare _ [_] _ _) _); refine de_cmp ?_)
  | ((with_reducible show DE _ _ (Expr.Compare _ [_, _] _ _) _); refine de_chain ?_)
  | ((with_reducible show DE _ _ (Expr.BinOp (Expr.List _ _) Operator.Add _ _) _); refine DL.de (dl_op ?_))
  | ((with_reducible show DE _ _ (Expr.BinOp _ Operator.Add (Expr.List _ _) _) _); refine DL.de (dl_op ?_))
  | ((with_reducible show DE _ _ (Expr.BinOp _ _ _ _) _); refine de_op ?_)
  | ((with_reducible show DE _ _ (Expr.Dict [] [] _) _); refine de_dic0 ?_)
  | ((with_reducible show DE _ _ (Expr.List _ _) _); refine DL.de (dl_list ?_))
  | ((with_reducible show DE _ _ (Expr.Subscript _ (Expr.Slice _ _ (some _) _) _) _); refine de_revT ?_)
  | ((with_reducible show DE _ _ (Expr.Subscript (Expr.Name _ _) (Expr.Slice _ _ none _) _) _); first
    | refine de_slT (nm_dat (d := PyData.tuple _) (by walk_at "wa") (by walk_at "wv") (by rfl) ?_)
    | refine de_slS (nm_dat (d := PyData.str _) (by walk_at "wa") (by walk_at "wv") (by rfl) ?_)
    | refine DL.de (dl_slL (nm_dat (d := PyData.list _) (by walk_at "wa") (by walk_at "wv") (by rfl) ?_)))
  | ((with_reducible show DE _ _ (Expr.Subscript _ (Expr.Slice _ _ none _) _) _); refine de_slT ?_)
  | ((with_reducible show DE _ _ (Expr.Subscript (Expr.Name _ _) (Expr.Constant (Const.int _) _ _) _) _); refine de_drwIx (by walk_at "wa") (by walk_at "wv") (by rfl) (by decide) ?_)
  | ((with_reducible show DE _ _ (Expr.Subscript _ _ _) _); refine de_ix ?_)
  | ((with_reducible show DE _ _ (Expr.Tuple _ _ _) _); refine de_tuple ?_)
  | ((with_reducible show DE _ _ (Expr.BoolOp _ [_] _) _); refine de_one ?_)
  | ((with_reducible show DE _ _ (Expr.BoolOp BoolOp.And _ _) _); refine de_and ?_)
  | ((with_reducible show DE _ _ (Expr.BoolOp BoolOp.Or _ _) _); refine de_or ?_)
  | ((with_reducible show DE _ _ (Expr.UnaryOp UnaryOp.Not _ _) _); refine de_not ?_)
  | ((with_reducible show DE _ _ (Expr.UnaryOp UnaryOp.USub _ _) _); refine de_neg ?_)
  | ((with_reducible show DE _ _ (Expr.IfExp _ _ _ _) _); refine de_if ?_))
local macro_rules | `(tactic| walk_at "dop") => `(tactic| first
  | ((with_reducible show DOp _ (binaryOp Operator.Add) (PyData.int _) (PyData.int _) _); refine do_add ?_)
  | ((with_reducible show DOp _ (binaryOp Operator.Sub) (PyData.int _) (PyData.int _) _); refine do_sub ?_)
  | ((with_reducible show DOp _ (binaryOp Operator.Mult) (PyData.int _) (PyData.int _) _); first | refine do_mul ?_ (by first | exact Or.inl ⟨by decide, by decide⟩ | exact Or.inr ⟨by decide, by decide⟩) | refine do_mul ?_ ?_)
  | ((with_reducible show DOp _ (binaryOp Operator.FloorDiv) (PyData.int _) (PyData.int _) _); first | refine do_fdiv ?_ ⟨by first | decide | with_reducible assumption | omega, by first | decide | with_reducible assumption | omega⟩ | refine do_fdiv ?_ ?_)
  | ((with_reducible show DOp _ (binaryOp Operator.Mod) (PyData.int _) (PyData.int _) _); first | refine do_mod ?_ (by first | decide | with_reducible assumption | omega) | refine do_mod ?_ ?_)
  | ((with_reducible show DOp _ (binaryOp Operator.Pow) (PyData.int _) (PyData.int _) _); first | refine do_pow ?_ ⟨by decide, by decide, by decide⟩ | refine do_pow ?_ ?_)
  | ((with_reducible show DOp _ (compareOp CmpOp.Lt) (PyData.int _) (PyData.int _) _); refine do_lt ?_)
  | ((with_reducible show DOp _ (compareOp CmpOp.LtE) (PyData.int _) (PyData.int _) _); refine do_le ?_)
  | ((with_reducible show DOp _ (compareOp CmpOp.Gt) (PyData.int _) (PyData.int _) _); refine do_gt ?_)
  | ((with_reducible show DOp _ (compareOp CmpOp.GtE) (PyData.int _) (PyData.int _) _); refine do_ge ?_)
  | ((with_reducible show DOp _ (compareOp CmpOp.Eq) (PyData.int _) (PyData.int _) _); refine do_eqI ?_)
  | ((with_reducible show DOp _ (compareOp CmpOp.NotEq) (PyData.int _) (PyData.int _) _); refine do_neI ?_)
  | ((with_reducible show DOp _ (compareOp CmpOp.Eq) (PyData.str _) (PyData.str _) _); refine do_eqS ?_)
  | ((with_reducible show DOp _ (compareOp CmpOp.NotEq) (PyData.str _) (PyData.str _) _); refine do_neS ?_)
  | ((with_reducible show DOp _ (compareOp CmpOp.Eq) (PyData.bool _) (PyData.bool _) _); refine do_eqB ?_)
  | ((with_reducible show DOp _ (compareOp CmpOp.NotEq) (PyData.bool _) (PyData.bool _) _); refine do_neB ?_)
  | ((with_reducible show DOp _ (compareOp CmpOp.NotEq) (PyData.list _) (PyData.list []) _); refine do_neL0 (by walk_at "rm") ?_)
  | ((with_reducible show DOp _ (compareOp CmpOp.Eq) (PyData.list _) (PyData.list []) _); refine do_eqL0 (by walk_at "rm") ?_)
  | ((with_reducible show DOp _ (compareOp CmpOp.Eq) (PyData.tuple _) (PyData.tuple []) _); refine do_eqT0 (by walk_at "rm") ?_)
  | ((with_reducible show DOp _ (compareOp CmpOp.Is) _ PyData.none _); refine do_isN ?_)
  | ((with_reducible show DOp _ (compareOp CmpOp.IsNot) _ PyData.none _); refine do_notN ?_)
  | ((with_reducible show DOp _ (compareOp CmpOp.In) (PyData.str ⟨#[_]⟩) (PyData.str _) _); refine do_inS ?_)
  | ((with_reducible show DOp _ (compareOp CmpOp.NotIn) (PyData.str ⟨#[_]⟩) (PyData.str _) _); refine do_ninS ?_))
local macro_rules | `(tactic| walk_at "dca") => `(tactic| first
  | ((with_reducible show DCall _ (Value.builtin "len") [PyData.tuple _] _); refine dc_len (n := List.length _) ?_ rfl)
  | ((with_reducible show DCall _ (Value.builtin "len") [PyData.list _] _); refine dc_len (n := List.length _) ?_ rfl)
  | ((with_reducible show DCall _ (Value.builtin "len") [PyData.str _] _); refine dc_len ?_ ⟨rfl, ?_⟩)
  | ((with_reducible show DCall _ (Value.builtin "abs") _ _); refine dc_abs ?_)
  | ((with_reducible show DCall _ (Value.builtin "min") _ _); refine dc_min2 rfl ?_)
  | ((with_reducible show DCall _ (Value.type "int") [PyData.bool _] _); refine dc_intB ?_)
  | ((with_reducible show DCall _ (Value.type "tuple") [PyData.list _] _); refine dc_tupL ?_)
  | ((with_reducible show DCall _ (Value.type "tuple") [PyData.tuple _] _); refine dc_tupT ?_))
local macro_rules | `(tactic| walk_at "dix") => `(tactic| first
  | ((with_reducible show DIx _ _ (PyData.int 0) _); first | refine dix_t0 ?_ | refine dix_l0 ?_)
  | ((with_reducible show DIx _ _ (PyData.int 1) _); first | refine dix_t1 ?_ | refine dix_l1 ?_)
  | ((with_reducible show DIx _ _ (PyData.int 2) _); first | refine dix_t2 ?_ | refine dix_l2 ?_))
local macro_rules | `(tactic| walk_at "dt") => `(tactic| first
  | ((with_reducible show DT _ _ (Expr.BoolOp BoolOp.And _ _) _); refine DW.DW.dt (dw_and ?_))
  | ((with_reducible show DT _ _ (Expr.BoolOp BoolOp.Or _ _) _); refine DW.DW.dt (dw_or ?_))
  | ((with_reducible show DT _ _ (Expr.Compare _ [_] _ _) _); refine dt_cmp ?_)
  | ((with_reducible show DT _ _ (Expr.Compare _ [_, _] _ _) _); refine dt_chain ?_)
  | ((with_reducible show DT _ _ (Expr.UnaryOp UnaryOp.Not _ _) _); refine dt_not ?_)
  | refine dt_val ?_)
local macro_rules | `(tactic| walk_at "d1") => `(tactic| first
  | ((with_reducible show DE _ _ _ _); walk_at "de")
  | ((with_reducible show DT _ _ _ _); walk_at "dt")
  | ((with_reducible show DOp _ _ _ _ _); walk_at "dop")
  | ((with_reducible show DOpL _ (binaryOp Operator.Add) (PyData.list _) (PyData.list _) _); refine dol_cat ?_ ?_)
  | ((with_reducible show DCall _ _ _ _); walk_at "dca")
  | ((with_reducible show DIx _ _ _ _); walk_at "dix")
  | ((with_reducible show DW.DW _ _ (Expr.BoolOp BoolOp.And [_] _) _); refine dw_and1 ?_)
  | ((with_reducible show DW.DW _ _ (Expr.BoolOp BoolOp.Or [_] _) _); refine dw_or1 ?_)
  | ((with_reducible show DW.DW _ _ (Expr.BoolOp BoolOp.And _ _) _); refine dw_and ?_)
  | ((with_reducible show DW.DW _ _ (Expr.BoolOp BoolOp.Or _ _) _); refine dw_or ?_)
  | ((with_reducible show DAd _ _ [] _); refine dad_nil ?_)
  | ((with_reducible show DAd _ _ _ _); refine dad_cons ?_)
  | ((with_reducible show DAv _ _ [] _); refine dav_nil ?_)
  | ((with_reducible show DAv _ _ _ _); refine dav_cons ?_)
  | ((with_reducible show DO _ _ none _); refine do_none ?_)
  | ((with_reducible show DO _ _ _ _); refine do_some ?_)
  | ((with_reducible show ∃ dx dy, DatOf _ (EV.dat _) dx ∧ DatOf _ (EV.dat _) dy ∧ _); refine ⟨_, _, .dat, .dat, ?_⟩)
  | ((with_reducible show ∃ dx dy, DatOf _ (EV.dat _) dx ∧ (EV.dat _) = EV.dat dy ∧ _); refine ⟨_, _, .dat, rfl, ?_⟩)
  | ((with_reducible show ∃ dx dy, DatOf _ _ dx ∧ DatOf _ _ dy ∧ _); first | refine ⟨_, _, .own rfl, .dat, ?_⟩ | refine ⟨_, _, .dat, .own rfl, ?_⟩ | refine ⟨_, _, .own rfl, .own rfl, ?_⟩)
  | ((with_reducible show ∃ dx, DatOf _ (EV.dat _) dx ∧ _); refine ⟨_, .dat, ?_⟩)
  | ((with_reducible show ∃ dx, DatOf _ _ dx ∧ _); refine ⟨_, .own rfl, ?_⟩)
  | ((with_reducible show ∃ d, _ = _ ∧ _); refine ⟨_, rfl, ?_⟩)
  | ((with_reducible show ∃ av : AV, _ ∧ _); first | refine ⟨_, Or.inl ⟨rfl, rfl⟩, ?_⟩ | refine ⟨_, Or.inr ⟨_, rfl, rfl⟩, ?_⟩))
local macro_rules | `(tactic| walk_at "db") => `(tactic| first
  | refine ⟨fun _ => ?_, fun h => Bool.noConfusion h⟩ | refine ⟨fun h => Bool.noConfusion h, fun _ => ?_⟩)
local macro_rules | `(tactic| walk_at "dst") => `(tactic| first
  | ((with_reducible show DS _ _ (Stmt.If _ _ _ _) _ _ _ _); refine ds_if ?_)
  | ((with_reducible show DS _ _ (Stmt.Expr _ _) _ _ _ _); refine ds_expr ?_)
  | ((with_reducible show DS _ _ (Stmt.Pass _) _ _ _ _); refine ds_pass ?_)
  | ((with_reducible show DS _ _ (Stmt.Assign [Expr.Subscript (Expr.Name _ _) (Expr.Constant (Const.int _) _ _) _] _ _) _ _ _ _); refine ds_drwSet (by walk_at "wa") (by walk_at "wv") ?_)
  | ((with_reducible show DS _ _ (Stmt.Return (some (Expr.ListComp _ _ _ _)) _) _ _ _ _); refine ds_retL ?_)
  | ((with_reducible show DS _ _ (Stmt.Return (some (Expr.List _ _)) _) _ _ _ _); refine ds_retL (dl_list ?_))
  | ((with_reducible show DS _ _ (Stmt.Return (some (Expr.Name _ _)) _) _ _ _ _); first
    | refine ds_ret (nm_dat (by walk_at "wa") (by walk_at "wv") (by rfl) ?_)
    | refine ds_retO (nm_own (by walk_at "wa") (by walk_at "wv") (by rfl) ⟨_, _, rfl, rfl, ?_⟩)
    | refine ds_ret ?_)
  | ((with_reducible show DS _ _ (Stmt.Return (some _) _) _ _ _ _); refine ds_ret ?_)
  | ((with_reducible show DS _ _ (Stmt.Assign [Expr.Name _ _] _ _) _ _ _ _); (fail_if_success (with_reducible show DS _ _ (Stmt.Assign [Expr.Name _ _] (Expr.ListComp _ _ _ _) _) _ _ _ _)); (fail_if_success (with_reducible show DS _ _ (Stmt.Assign [Expr.Name _ _] (Expr.List _ _) _) _ _ _ _)); refine st_set (by walk_at "wa") (by walk_at "wa") (by walk_at "wa") ?_))
local macro_rules | `(tactic| walk_at "e") => `(tactic| repeat (first | walk_at "d1" | walk_at "db"))
local macro_rules | `(tactic| walk_at "d") => `(tactic| repeat (first | walk_at "d1" | walk_at "db" | ((with_reducible show DS _ _ _ _ _ _ _); walk_at "dst") | ((with_reducible show DB _ _ [] _ _ _ _); refine db_nil ?_) | ((with_reducible show DB _ _ _ _ _ _ _); refine db_cons ?_)))
local macro_rules | `(tactic| walk_at "ds") => `(tactic| refine st_set (by walk_at "wa") (by walk_at "wa") (by walk_at "wa") ?_)
local macro_rules | `(tactic| walk_at "dsl") => `(tactic| refine st_setL (by walk_at "wa") (by walk_at "wa") (by walk_at "wa") ?_)
local macro_rules | `(tactic| walk_at "dz") => `(tactic| dsimp (config := { proj := false }) only [List.set, List.map, List.replicate, List.cons_append, List.nil_append, AV.sv])
section
variable {P : Program} {w : World} {K : PySem.W.Frag} {mg : Str → Option Value} {base : Heap}
/-! ### _law_odd -/
def odds1 : List PyData := [.none, .bool true, .bool false, .int (-1), .int 200, .int (10 ^ 30), .str "", .str "Int", .str "->", .tuple [], .list [], .dict [], .tuple [.str "int"], .tuple [.str ""], .tuple [.str "->"], .tuple [.str "->", .int 0]]
def odds2 : List PyData := [.tuple [.str "->", .int 0, .int 1, .int 2], .tuple [.str "A_"], .tuple [.str "Abcdefghi"], .tuple [.str "A", .int 0, .int 1, .int 2, .int 3], .list [.str "A"], .tuple [.int 0], .tuple [.bool true], .tuple [.str "A", .none], .int 199, .int 7]
def odds3 : List PyData := [.tuple [.str "A", .list [.int 0]], .tuple [.str "A", .tuple [.str "b"]], .tuple [.str "Aa1"], .tuple [.str "1A"], .tuple [.dict []], .tuple [.tuple [.str "A"]]]
def odds : List PyData := odds1 ++ odds2 ++ odds3
def fs_L_odd : FS := fun avs R => avs = [.drw] ∧ ∀ d ∈ odds, R (.dat d)
theorem ok_L_odd {k : Nat} (T : Tp K mg) (F_L_one : Fn P w K mg base k "_law_one" fs_L_one) : Fn P w K mg base (k + 1) "_law_odd" fs_L_odd := by
  refine T.d_L_odd.ok sc_L_odd (fun avs R h => ?_) (fun f cdv A outer s H E dr avs R hr hgd h => ?_)
  · obtain ⟨rfl, _⟩ := h
    rfl
  obtain ⟨rfl, hR⟩ := h
  have T' : Tp (fcx P w K mg base n_L_odd "_law_odd" s_L_odd f cdv A outer s H E).K (fcx P w K mg base n_L_odd "_law_odd" s_L_odd f cdv A outer s H E).mg := T
  have v0 : (fcx P w K mg base n_L_odd "_law_odd" s_L_odd f cdv A outer s H E).N[0]? = some ("_law_drawn" : Str) := rfl
  have w0 : Vis (fcx P w K mg base n_L_odd "_law_odd" s_L_odd f cdv A outer s H E).env.scope "_law_drawn" := by walk_at "dv"
  have l0 : Loc (fcx P w K mg base n_L_odd "_law_odd" s_L_odd f cdv A outer s H E).env.scope "_law_drawn" := by walk_at "dl"
  have v1 : (fcx P w K mg base n_L_odd "_law_odd" s_L_odd f cdv A outer s H E).N[1]? = some ("_law_some" : Str) := rfl
  have w1 : Vis (fcx P w K mg base n_L_odd "_law_odd" s_L_odd f cdv A outer s H E).env.scope "_law_some" := by walk_at "dv"
  have l1 : Loc (fcx P w K mg base n_L_odd "_law_odd" s_L_odd f cdv A outer s H E).env.scope "_law_some" := by walk_at "dl"
  have nd : (fcx P w K mg base n_L_odd "_law_odd" s_L_odd f cdv A outer s H E).N.Nodup := sc_L_odd.nd
  have c_L_one := Fn.cal (X := (fcx P w K mg base n_L_odd "_law_odd" s_L_odd f cdv A outer s H E)) F_L_one hr hgd
  have rm : Rm ⟨(fcx P w K mg base n_L_odd "_law_odd" s_L_odd f cdv A outer s H E), H, dr⟩ := rm_of hr
  have gd : Gd ⟨(fcx P w K mg base n_L_odd "_law_odd" s_L_odd f cdv A outer s H E), H, dr⟩ := hgd
  rw [show List.replicate (n_L_odd.length - [("_law_drawn" : Str)].length) SV.no = [.no] from rfl]
  walk_at "dz"
  refine db_cons ?_
  walk_at "ds"
  refine de_litE (n := 3) (d := .list odds1) (by decide +kernel) (by simp only [litV, List.map]; rfl) ⟨_, rfl, ?_⟩
  walk_at "dz"
  generalize ho1 : odds1 = o1
  refine db_cons ?_
  walk_at "ds"
  refine DL.de (dl_op ?_)
  refine nm_dat (d := .list o1) v1 w1 rfl ?_
  with_reducible show DE _ _ (Expr.List _ _) _
  refine de_lit (n := 3) ?_ ?_
  · decide +kernel
  generalize hv_odds2 : litV 3 _ = v_odds2
  have hw_odds2 : v_odds2 = .list odds2 := by rw [← hv_odds2]; simp only [litV, List.map]; rfl
  clear hv_odds2
  subst hw_odds2
  generalize ho2 : odds2 = o2
  have hl2 : o1.length = 16 ∧ o2.length = 10 := by subst ho1 ho2; exact ⟨rfl, rfl⟩
  refine ⟨.list o1, .list o2, .dat, .dat, ?_⟩
  refine dol_cat ⟨_, rfl, ?_⟩ (by unfold sizeLine; omega)
  walk_at "dz"
  refine db_cons ?_
  refine ds_ret ?_
  refine de_f c_L_one ?_
  refine dav_cons (nm_drw v0 w0 rfl ⟨_, Or.inl ⟨rfl, rfl⟩, ?_⟩)
  refine dav_cons (DL.de (dl_op ?_))
  refine nm_dat (d := .list (o1 ++ o2)) v1 w1 rfl ?_
  with_reducible show DE _ _ (Expr.List _ _) _
  refine de_lit (n := 4) ?_ ?_
  · decide +kernel
  generalize hv_odds3 : litV 4 _ = v_odds3
  have hw_odds3 : v_odds3 = .list odds3 := by rw [← hv_odds3]; simp only [litV, List.map]; rfl
  clear hv_odds3
  subst hw_odds3
  generalize ho3 : odds3 = o3
  have hl3 : o3.length = 6 := by subst ho3; rfl
  refine ⟨.list (o1 ++ o2), .list o3, .dat, .dat, ?_⟩
  refine dol_cat ⟨_, rfl, ?_⟩ (by rw [List.length_append]; unfold sizeLine; omega)
  refine dav_nil ?_
  refine ⟨_, rfl, ?_, ?_, fun d hd => ⟨d, rfl, hR d ?_⟩⟩
  · intro h
    have := congrArg List.length h
    rw [List.length_append, List.length_append, List.length_nil] at this
    omega
  · rw [List.length_append, List.length_append]; omega
  unfold odds
  rw [ho1, ho2, ho3]
  exact hd
end
end K01
namespace K01
open PySem L2 DW PyProof.Rows
local macro_rules | `(tactic| walk_at "dv") => `(tactic| first | exact Or.inl rfl | exact Or.inr (Or.inl rfl) | exact Or.inr (Or.inr rfl))
local macro_rules | `(tactic| walk_at "dl") => `(tactic| first | exact Or.inl rfl | exact Or.inr rfl)
local macro_rules | `(tactic| walk_at "wv") => `(tactic| first | with_reducible assumption | walk_at "dv")
local macro_rules | `(tactic| walk_at "wa") => `(tactic| with_reducible assumption)
local macro_rules | `(tactic| walk_at "rm") => `(tactic| first | with_reducible assumption | (apply Rm.blk; with_reducible assumption))
local macro_rules | `(tactic| walk_at "dn") => `(tactic| first
  | refine nm_dat (by walk_at "wa") (by walk_at "wv") (by rfl) ?_ | refine nm_own (by walk_at "wa") (by walk_at "wv") (by rfl) ?_ | refine nm_drw (by walk_at "wa") (by walk_at "wv") (by rfl) ?_ | refine nm_scr (by walk_at "wa") (by walk_at "wv") (by rfl) ?_
  | refine de_globI (by walk_at "wa") rfl ?_ | refine de_globS (by walk_at "wa") rfl ?_)
local macro_rules | `(tactic| walk_at "dci") => `(tactic| first
  | ((with_reducible show DE _ _ (Expr.Call _ [_, Expr.Name "int" _] _ _) _); refine de_is kInt bt_int (by walk_at "wa") (by walk_at "wa") ?_)
  | ((with_reducible show DE _ _ (Expr.Call _ [_, Expr.Name "bool" _] _ _) _); refine de_is kBool bt_bool (by walk_at "wa") (by walk_at "wa") ?_)
  | ((with_reducible show DE _ _ (Expr.Call _ [_, Expr.Name "str" _] _ _) _); refine de_is kStr bt_str (by walk_at "wa") (by walk_at "wa") ?_)
  | ((with_reducible show DE _ _ (Expr.Call _ [_, Expr.Name "tuple" _] _ _) _); refine de_is kTup bt_tuple (by walk_at "wa") (by walk_at "wa") ?_)
  | ((with_reducible show DE _ _ (Expr.Call _ [_, Expr.Name "list" _] _ _) _); refine de_is kLst bt_list (by walk_at "wa") (by walk_at "wa") ?_)
  | ((with_reducible show DE _ _ (Expr.Call _ [_, Expr.Tuple [Expr.Name "tuple" _, Expr.Name "list" _] _ _] _ _) _); refine de_is2 kTup kLst bt_tuple bt_list (by walk_at "wa") (by walk_at "wa") (by walk_at "wa") ?_)
  | ((with_reducible show DE _ _ (Expr.Call _ [_, Expr.Tuple [Expr.Name "int" _, Expr.Name "tuple" _] _ _] _ _) _); refine de_is2 kInt kTup bt_int bt_tuple (by walk_at "wa") (by walk_at "wa") (by walk_at "wa") ?_))
local macro_rules | `(tactic| walk_at "dc") => `(tactic| first
  | ((with_reducible show DE _ _ (Expr.Call (Expr.Name "isinstance" _) _ _ _) _); walk_at "dci")
  | ((with_reducible show DE _ _ (Expr.Call (Expr.Name "len" _) [Expr.Name _ _] _ _) _); refine len_scr (by walk_at "wa") (by walk_at "wv") (by rfl) (by walk_at "wa") ?_)
  | ((with_reducible show DE _ _ (Expr.Call (Expr.Name "len" _) _ _ _) _); refine de_b1 bb_len (by walk_at "wa") ?_)
  | ((with_reducible show DE _ _ (Expr.Call (Expr.Name "abs" _) _ _ _) _); refine de_b1 bb_abs (by walk_at "wa") ?_)
  | ((with_reducible show DE _ _ (Expr.Call (Expr.Name "repr" _) _ _ _) _); refine de_b1 bb_repr (by walk_at "wa") ?_)
  | ((with_reducible show DE _ _ (Expr.Call (Expr.Name "all" _) _ _ _) _); refine de_b1 bb_all (by walk_at "wa") ?_)
  | ((with_reducible show DE _ _ (Expr.Call (Expr.Name "any" _) _ _ _) _); refine de_b1 bb_any (by walk_at "wa") ?_)
  | ((with_reducible show DE _ _ (Expr.Call (Expr.Name "sum" _) _ _ _) _); refine de_b1 bb_sum (by walk_at "wa") ?_)
  | ((with_reducible show DE _ _ (Expr.Call (Expr.Name "max" _) _ _ _) _); refine de_b1 bb_max (by walk_at "wa") ?_)
  | ((with_reducible show DE _ _ (Expr.Call (Expr.Name "int" _) _ _ _) _); refine de_t1 bt_int (by walk_at "wa") ?_)
  | ((with_reducible show DE _ _ (Expr.Call (Expr.Name "tuple" _) _ _ _) _); refine de_t1 bt_tuple (by walk_at "wa") ?_)
  | ((with_reducible show DE _ _ (Expr.Call (Expr.Name "min" _) _ _ _) _); refine de_b2 bb_min (by walk_at "wa") ?_)
  | ((with_reducible show DE ⟨blkX _ _ _ _ _ _ _, _, _⟩ _ _ _); refine de_fB (by walk_at "wa") ?_)
  | refine de_f (by walk_at "wa") ?_)
local macro_rules | `(tactic| walk_at "de") => `(tactic| first
  | ((with_reducible show DE _ _ (Expr.Name _ _) _); walk_at "dn")
  | ((with_reducible show DE _ _ (Expr.Call (Expr.Name _ _) _ _ _) _); walk_at "dc")
  | ((with_reducible show DE _ _ (Expr.Constant (Const.int _) _ _) _); refine de_int ?_)
  | ((with_reducible show DE _ _ (Expr.Constant (Const.str _) _ _) _); refine de_str ?_)
  | ((with_reducible show DE _ _ (Expr.Constant (Const.bool _) _ _) _); refine de_bl ?_)
  | ((with_reducible show DE _ _ (Expr.Constant Const.none _ _) _); refine de_non ?_)
  | ((with_reducible show DE _ _ (Expr.Compare _ [_] _ _) _); refine de_cmp ?_)
  | ((with_reducible show DE _ _ (Expr.Compare _ [_, _] _ _) _); refine de_chain ?_)
  | ((with_reducible show DE _ _ (Expr.BinOp (Expr.List _ _) Operator.Add _ _) _); refine DL.de (dl_op ?_))
  | ((with_reducible show DE _ _ (Expr.BinOp _ Operator.Add (Expr.List _ _) _) _); refine DL.de (dl_op ?_))
  | ((with_reducible show DE _ _ (Expr.BinOp _ _ _ _) _); refine de_op ?_)
  | ((with_reducible show DE _ _ (Expr.Dict [] [] _) _); refine de_dic0 ?_)
  | ((with_reducible show DE _ _ (Expr.List _ _) _); refine DL.de (dl_list ?_))
  | ((with_reducible show DE _ _ (Expr.Subscript _ (Expr.Slice _ _ (some _) _) _) _); refine de_revT ?_)
  | ((with_reducible show DE _ _ (Expr.Subscript (Expr.Name _ _) (Expr.Slice _ _ none _) _) _); first
    | refine de_slT (nm_dat (d := PyData.tuple _) (by walk_at "wa") (by walk_at "wv") (by rfl) ?_)
    | refine de_slS (nm_dat (d := PyData.str _) (by walk_at "wa") (by walk_at "wv") (by rfl) ?_)
    | refine DL.de (dl_slL (nm_dat (d := PyData.list _) (by walk_at "wa") (by walk_at "wv") (by rfl) ?_)))
  | ((with_reducible show DE _ _ (Expr.Subscript _ (Expr.Slice _ _ none _) _) _); refine de_slT ?_)
  | ((with_reducible show DE _ _ (Expr.Subscript (Expr.Name _ _) (Expr.Constant (Const.int _) _ _) _) _); refine de_drwIx (by walk_at "wa") (by walk_at "wv") (by rfl) (by decide) ?_)
  | ((with_reducible show DE _ _ (Expr.Subscript _ _ _) _); refine de_ix ?_)
  | ((with_reducible show DE _ _ (Expr.Tuple _ _ _) _); refine de_tuple ?_)
  | ((with_reducible show DE _ _ (Expr.BoolOp _ [_] _) _); refine de_one ?_)
  | ((with_reducible show DE _ _ (Expr.BoolOp BoolOp.And _ _) _); refine de_and ?_)
  | ((with_reducible show DE _ _ (Expr.BoolOp BoolOp.Or _ _) _); refine de_or ?_)
  | ((with_reducible show DE _ _ (Expr.UnaryOp UnaryOp.Not _ _) _); refine de_not ?_)
  | ((with_reducible show DE _ _ (Expr.UnaryOp UnaryOp.USub _ _) _); refine de_neg ?_)
  | ((with_reducible show DE _ _ (Expr.IfExp _ _ _ _) _); refine de_if ?_))
local macro_rules | `(tactic| walk_at "dop") => `(tactic| first
  | ((with_reducible show DOp _ (binaryOp Operator.Add) (PyData.int _) (PyData.int _) _); refine do_add ?_)
  | ((with_reducible show DOp _ (binaryOp Operator.Sub) (PyData.int _) (PyData.int _) _); refine do_sub ?_)
  | ((with_reducible show DOp _ (binaryOp Operator.Mult) (PyData.int _) (PyData.int _) _); first | refine do_mul ?_ (by first | exact Or.inl ⟨by decide, by decide⟩ | exact Or.inr ⟨by decide, by decide⟩) | refine do_mul ?_ ?_)
  | ((with_reducible show DOp _ (binaryOp Operator.FloorDiv) (PyData.int _) (PyData.int _) _); first | refine do_fdiv ?_ ⟨by first | decide | with_reducible assumption | omega, by first | decide | with_reducible assumption | omega⟩ | refine do_fdiv ?_ ?_)
  | ((with_reducible show DOp _ (binaryOp Operator.Mod) (PyData.int _) (PyData.int _) _); first | refine do_mod ?_ (by first | decide | with_reducible assumption | omega) | refine do_mod ?_ ?_)
  | ((with_reducible show DOp _ (binaryOp Operator.Pow) (PyData.int _) (PyData.int _) _); first | refine do_pow ?_ ⟨by decide, by decide, by decide⟩ | refine do_pow ?_ ?_)
  | ((with_reducible show DOp _ (compareOp CmpOp.Lt) (PyData.int _) (PyData.int _) _); refine do_lt ?_)
  | ((with_reducible show DOp _ (compareOp CmpOp.LtE) (PyData.int _) (PyData.int _) _); refine do_le ?_)
  | ((with_reducible show DOp _ (compareOp CmpOp.Gt) (PyData.int _) (PyData.int _) _); refine do_gt ?_)
  | ((with_reducible show DOp _ (compareOp CmpOp.GtE) (PyData.int _) (PyData.int _) _); refine do_ge ?_)
  | ((with_reducible show DOp _ (compareOp CmpOp.Eq) (PyData.int _) (PyData.int _) _); refine do_eqI ?_)
  | ((with_reducible show DOp _ (compareOp CmpOp.NotEq) (PyData.int _) (PyData.int _) _); refine do_neI ?_)
  | ((with_reducible show DOp _ (compareOp CmpOp.Eq) (PyData.str _) (PyData.str _) _); refine do_eqS ?_)
  | ((with_reducible show DOp _ (compareOp CmpOp.NotEq) (PyData.str _) (PyData.str _) _); refine do_neS ?_)
  | ((with_reducible show DOp _ (compareOp CmpOp.Eq) (PyData.bool _) (PyData.bool _) _); refine do_eqB ?_)
  | ((with_reducible show DOp _ (compareOp CmpOp.NotEq) (PyData.bool _) (PyData.bool _) _); refine do_neB ?_)
  | ((with_reducible show DOp _ (compareOp CmpOp.NotEq) (PyData.list _) (PyData.list []) _); refine do_neL0 (by walk_at "rm") ?_)
  | ((with_reducible show DOp _ (compareOp CmpOp.Eq) (PyData.list _) (PyData.list []) _); refine do_eqL0 (by walk_at "rm") ?_)
  | ((with_reducible show DOp _ (compareOp CmpOp.Eq) (PyData.tuple _) (PyData.tuple []) _); refine do_eqT0 (by walk_at "rm") ?_)
  | ((with_reducible show DOp _ (compareOp CmpOp.Is) _ PyData.none _); refine do_isN ?_)
  | ((with_reducible show DOp _ (compareOp CmpOp.IsNot) _ PyData.none _); refine do_notN ?_)
  | ((with_reducible show DOp _ (compareOp CmpOp.In) (PyData.str ⟨#[_]⟩) (PyData.str _) _); refine do_inS ?_)
  | ((with_reducible show DOp _ (compareOp CmpOp.NotIn) (PyData.str ⟨#[_]⟩) (PyData.str _) _); refine do_ninS ?_))
local macro_rules | `(tactic| walk_at "dca") => `(tactic| first
  | ((with_reducible show DCall _ (Value.builtin "len") [PyData.tuple _] _); refine dc_len (n := List.length _) ?_ rfl)
  | ((with_reducible show DCall _ (Value.builtin "len") [PyData.list _] _); refine dc_len (n := List.length _) ?_ rfl)
  | ((with_reducible show DCall _ (Value.builtin "len") [PyData.str _] _); refine dc_len ?_ ⟨rfl, ?_⟩)
  | ((with_reducible show DCall _ (Value.builtin "abs") _ _); refine dc_abs ?_)
  | ((with_reducible show DCall _ (Value.builtin "min") _ _); refine dc_min2 rfl ?_)
  | ((with_reducible show DCall _ (Value.type "int") [PyData.bool _] _); refine dc_intB ?_)
  | ((with_reducible show DCall _ (Value.type "tuple") [PyData.list _] _); refine dc_tupL ?_)
  | ((with_reducible show DCall _ (Value.type "tuple") [PyData.tuple _] _); refine dc_tupT ?_))
local macro_rules | `(tactic| walk_at "dix") => `(tactic| first
  | ((with_reducible show DIx _ _ (PyData.int 0) _); first | refine dix_t0 ?_ | refine dix_l0 ?_)
  | ((with_reducible show DIx _ _ (PyData.int 1) _); first | refine dix_t1 ?_ | refine dix_l1 ?_)
  | ((with_reducible show DIx _ _ (PyData.int 2) _); first | refine dix_t2 ?_ | refine dix_l2 ?_))
local macro_rules | `(tactic| walk_at "dt") => `(tactic| first
  | ((with_reducible show DT _ _ (Expr.BoolOp BoolOp.And _ _) _); refine DW.DW.dt (dw_and ?_))
  | ((with_reducible show DT _ _ (Expr.BoolOp BoolOp.Or _ _) _); refine DW.DW.dt (dw_or ?_))
  | ((with_reducible show DT _ _ (Expr.Compare _ [_] _ _) _); refine dt_cmp ?_)
  | ((with_reducible show DT _ _ (Expr.Compare _ [_, _] _ _) _); refine dt_chain ?_)
  | ((with_reducible show DT _ _ (Expr.UnaryOp UnaryOp.Not _ _) _); refine dt_not ?_)
  | refine dt_val ?_)
local macro_rules | `(tactic| walk_at "d1") => `(tactic| first
  | ((with_reducible show DE _ _ _ _); walk_at "de")
  | ((with_reducible show DT _ _ _ _); walk_at "dt")
  | ((with_reducible show DOp _ _ _ _ _); walk_at "dop")
  | ((with_reducible show DOpL _ (binaryOp Operator.Add) (PyData.list _) (PyData.list _) _); refine dol_cat ?_ ?_)
  | ((with_reducible show DCall _ _ _ _); walk_at "dca")
  | ((with_reducible show DIx _ _ _ _); walk_at "dix")
  | ((with_reducible show DW.DW _ _ (Expr.BoolOp BoolOp.And [_] _) _); refine dw_and1 ?_)
  | ((with_reducible show DW.DW _ _ (Expr.BoolOp BoolOp.Or [_] _) _); refine dw_or1 ?_)
  | ((with_reducible show DW.DW _ _ (Expr.BoolOp BoolOp.And _ _) _); refine dw_and ?_)
  | ((with_reducible show DW.DW _ _ (Expr.BoolOp BoolOp.Or _ _) _); refine dw_or ?_)
  | ((with_reducible show DAd _ _ [] _); refine dad_nil ?_)
  | ((with_reducible show DAd _ _ _ _); refine dad_cons ?_)
  | ((with_reducible show DAv _ _ [] _); refine dav_nil ?_)
  | ((with_reducible show DAv _ _ _ _); refine dav_cons ?_)
  | ((with_reducible show DO _ _ none _); refine do_none ?_)
  | ((with_reducible show DO _ _ _ _); refine do_some ?_)
  | ((with_reducible show ∃ dx dy, DatOf _ (EV.dat _) dx ∧ DatOf _ (EV.dat _) dy ∧ _); refine ⟨_, _, .dat, .dat, ?_⟩)
  | ((with_reducible show ∃ dx dy, DatOf _ (EV.dat _) dx ∧ (EV.dat _) = EV.dat dy ∧ _); refine ⟨_, _, .dat, rfl, ?_⟩)
  | ((with_reducible show ∃ dx dy, DatOf _ _ dx ∧ DatOf _ _ dy ∧ _); first | refine ⟨_, _, .own rfl, .dat, ?_⟩ | refine ⟨_, _, .dat, .own rfl, ?_⟩ | refine ⟨_, _, .own rfl, .own rfl, ?_⟩)
  | ((with_reducible show ∃ dx, DatOf _ (EV.dat _) dx ∧ _); refine ⟨_, .dat, ?_⟩)
  | ((with_reducible show ∃ dx, DatOf _ _ dx ∧ _); refine ⟨_, .own rfl, ?_⟩)
  | ((with_reducible show ∃ d, _ = _ ∧ _); refine ⟨_, rfl, ?_⟩)
  | ((with_reducible show ∃ av : AV, _ ∧ _); first | refine ⟨_, Or.inl ⟨rfl, rfl⟩, ?_⟩ | refine ⟨_, Or.inr ⟨_, rfl, rfl⟩, ?_⟩))
local macro_rules | `(tactic| walk_at "db") => `(tactic| first
  | refine ⟨fun _ => ?_, fun h => Bool.noConfusion h⟩ | refine ⟨fun h => Bool.noConfusion h, fun _ => ?_⟩)
local macro_rules | `(tactic| walk_at "dst") => `(tactic| first
  | ((with_reducible show DS _ _ (Stmt.If _ _ _ _) _ _ _ _); refine ds_if ?_)
  | ((with_reducible show DS _ _ (Stmt.Expr _ _) _ _ _ _); refine ds_expr ?_)
  | ((with_reducible show DS _ _ (Stmt.Pass _) _ _ _ _); refine ds_pass ?_)
  | ((with_reducible show DS _ _ (Stmt.Assign [Expr.Subscript (Expr.Name _ _) (Expr.Constant (Const.int _) _ _) _] _ _) _ _ _ _); refine ds_drwSet (by walk_at "wa") (by walk_at "wv") ?_)
  | ((with_reducible show DS _ _ (Stmt.Return (some (Expr.ListComp _ _ _ _)) _) _ _ _ _); refine ds_retL ?_)
  | ((with_reducible show DS _ _ (Stmt.Return (some (Expr.List _ _)) _) _ _ _ _); refine ds_retL (dl_list ?_))
  | ((with_reducible show DS _ _ (Stmt.Return (some (Expr.Name _ _)) _) _ _ _ _); first
    | refine ds_ret (nm_dat (by walk_at "wa") (by walk_at "wv") (by rfl) ?_)
    | refine ds_retO (nm_own (by walk_at "wa") (by walk_at "wv") (by rfl) ⟨_, _, rfl, rfl, ?_⟩)
    | refine ds_ret ?_)
  | ((with_reducible show DS _ _ (Stmt.Return (some _) _) _ _ _ _); refine ds_ret ?_)
  | ((with_reducible show DS _ _ (Stmt.Assign [Expr.Name _ _] _ _) _ _ _ _); (fail_if_success (with_reducible show DS _ _ (Stmt.Assign [Expr.Name _ _] (Expr.ListComp _ _ _ _) _) _ _ _ _)); (fail_if_success (with_reducible show DS _ _ (Stmt.Assign [Expr.Name _ _] (Expr.List _ _) _) _ _ _ _)); refine st_set (by walk_at "wa") (by walk_at "wa") (by walk_at "wa") ?_))
local macro_rules | `(tactic| walk_at "e") => `(tactic| repeat (first | walk_at "d1" | walk_at "db"))
local macro_rules | `(tactic| walk_at "d") => `(tactic| repeat (first | walk_at "d1" | walk_at "db" | ((with_reducible show DS _ _ _ _ _ _ _); walk_at "dst") | ((with_reducible show DB _ _ [] _ _ _ _); refine db_nil ?_) | ((with_reducible show DB _ _ _ _ _ _ _); refine db_cons ?_)))
local macro_rules | `(tactic| walk_at "ds") => `(tactic| refine st_set (by walk_at "wa") (by walk_at "wa") (by walk_at "wa") ?_)
local macro_rules | `(tactic| walk_at "dsl") => `(tactic| refine st_setL (by walk_at "wa") (by walk_at "wa") (by walk_at "wa") ?_)
local macro_rules | `(tactic| walk_at "dz") => `(tactic| dsimp (config := { proj := false }) only [List.set, List.map, List.replicate, List.cons_append, List.nil_append, AV.sv])
section
variable {P : Program} {w : World} {K : PySem.W.Frag} {mg : Str → Option Value}
theorem Cls.of_gs {wA k : Nat} {d : PyData} (h : Gs wA k d) (hw : wA ≤ 100000) (hk : k ≤ 60) : Cls d := ⟨h.g, Nat.le_trans h.w hw, Nat.le_trans h.dp hk, .inl h.nd⟩
theorem odd_all {p : PyData → Bool} (h : odds.all p = true) {d : PyData} (hd : d ∈ odds) : p d = true := List.all_eq_true.mp h d hd
def oddB (d : PyData) : Bool := gda d && decide (wt d ≤ 1000) && decide (d.depth ≤ 3) && (!d.hasDict || noList d)
theorem odd_b {d : PyData} (hd : d ∈ odds) : gda d = true ∧ wt d ≤ 1000 ∧ d.depth ≤ 3 ∧ (d.hasDict = false ∨ noList d = true) := by
  have h := odd_all (p := oddB) (by decide +kernel) hd
  unfold oddB at h
  rw [Bool.and_eq_true, Bool.and_eq_true, Bool.and_eq_true] at h
  refine ⟨h.1.1.1, dTr h.1.1.2, dTr h.1.2, ?_⟩
  rcases Bool.or_eq_true .. ▸ h.2 with h | h
  · exact .inl (by simpa using h)
  · exact .inr h
theorem Cls.odd {d : PyData} (hd : d ∈ odds) : Cls d := by
  obtain ⟨h1, h2, h3, h4⟩ := odd_b hd
  exact ⟨h1, by omega, by omega, h4⟩
theorem Cls.other {wA k : Nat} {sh part d : PyData} (h : Gs wA k sh) (hp : part ∈ odds) (o : Ot sh part d) (hw : wA ≤ 90000) (hk : k ≤ 50) : Cls d := by
  obtain ⟨h1, h2, h3, h4⟩ := odd_b hp
  refine ⟨o.g h.g h1, ?_, ?_, ?_⟩
  · have := o.w; have := h.w; omega
  · have := o.dp; have := h.dp; omega
  · rcases h4 with h4 | h4
    · exact .inl (o.nd h.nd h4)
    · exact .inr (o.nl h.nl h4)
theorem Cls.self {wA k : Nat} {sh d : PyData} (h : Gs wA k sh) (o : Ot sh sh d) (hw : wA ≤ 50000) (hk : k ≤ 30) : Cls d := by
  refine ⟨o.g h.g h.g, ?_, ?_, .inl (o.nd h.nd h.nd)⟩
  · have := o.w; have := h.w; omega
  · have := o.dp; have := h.dp; omega
def valsOf (x : Str) : List PyData := [.tuple [.str x], .tuple [.str x, .int 0], .tuple [.str x, .int 0, .int 199], .tuple [.str x, .int 1, .tuple [.str "A"], .int 0], .tuple [.str x, .int 0, .int 1, .int 2, .int 3], .str x]
theorem vals_ok {x : Str} (hx : texts.contains x = true) {d : PyData} (hd : d ∈ valsOf x) : Cls d ∧ Cls (.tuple [.str "P", d, .tuple [.str "P", .int 0, .tuple [.str "P", d, .int 1, .int 2]]]) := by
  have h : gda d = true ∧ wt d ≤ 500 ∧ d.depth ≤ 2 ∧ d.hasDict = false := by
    have i0 : ∀ i : Int, gda (.int i) = okInt i := fun i => by rw [gda]
    have i1 : gda (.str x) = texts.contains x := by rw [gda]
    have i2 : gda (.str "A") = true := by rw [gda]; decide +kernel
    unfold valsOf at hd
    simp only [List.mem_cons, List.not_mem_nil, or_false] at hd
    rcases hd with rfl | rfl | rfl | rfl | rfl | rfl <;>
      refine ⟨by simp only [gda, gdas, hx, i0, i2]; try decide, by simp only [wt, wts]; try decide, by simp [PyData.depth, PyData.depthAll], by simp [PyData.hasDict, PyData.hasDictAll]⟩
  obtain ⟨h1, h2, h3, h4⟩ := h
  have hP : texts.contains "P" = true := by decide +kernel
  refine ⟨⟨h1, by omega, by omega, .inl h4⟩, ⟨?_, ?_, ?_, .inl ?_⟩⟩
  · simp only [gda, gdas, h1, hP]; decide
  · simp only [wt, wts]; omega
  · simp only [PyData.depth, PyData.depthAll]; omega
  · simp [PyData.hasDict, PyData.hasDictAll, h4]
def lsigns : List Str := ["A\n", "Ab\n", "\nA", "A_b", "A b", "A-", "->\n", "Aa1Bb2Cc", "Aa1Bb2Cc\n", "Aa1Bb2Cc3", "A", "List"]
theorem law_of (T : Tp K mg) : ∃ (fa : Addr) (fd : FuncData), mg "law" = some (.ref fa) ∧ Binds K fd ["_law_script"] [] ∧ ∀ base : Heap, K.In base → base.Ns mainGlobals mg → FnG P w K mg base 195 fa fd ["_law_script"] (spOf K fsLaw) := by
  refine law_fn (k := 194) T.d_law sc_law (fun base f cdv A outer s H E ns hr hgd hl => ?_)
  have F_L_draws : Fn P w K mg base 194 "_law_draws" fs_L_draws := (ok_L_draws (k := 0) T).mono (by decide)
  have F_L_next : Fn P w K mg base 194 "_law_next" fs_L_next := (ok_L_next (k := 0) T).mono (by decide)
  have F_L_next1 : Fn P w K mg base 1 "_law_next" fs_L_next := ok_L_next (k := 0) T
  have F_L_one2 : Fn P w K mg base 2 "_law_one" fs_L_one := ok_L_one T F_L_next1
  have F_L_one : Fn P w K mg base 194 "_law_one" fs_L_one := F_L_one2.mono (by decide)
  have F_L_leaf3 : Fn P w K mg base 3 "_law_leaf" fs_L_leaf := ok_L_leaf T (F_L_next1.mono (by decide)) F_L_one2
  have F_L_sized : Fn P w K mg base 194 "_law_sized" (fs_L_sized 30) := (ok_L_sized (b := 3) T F_L_leaf3 (F_L_next1.mono (by decide)) (F_L_one2.mono (by decide)) 30).mono (by decide)
  have F_L_sized4 : Fn P w K mg base 194 "_law_sized" (fs_L_sized 4) := (ok_L_sized (b := 3) T F_L_leaf3 (F_L_next1.mono (by decide)) (F_L_one2.mono (by decide)) 4).mono (by decide)
  have F_L_tower : Fn P w K mg base 194 "_law_tower" fs_L_tower := (ok_L_tower T F_L_one2).mono (by decide)
  have F_L_other : Fn P w K mg base 194 "_law_other" (fs_L_other 80) := (ok_L_other (b := 1) T F_L_next1 80).mono (by decide)
  have F_L_odd : Fn P w K mg base 194 "_law_odd" fs_L_odd := (ok_L_odd T F_L_one2).mono (by decide)
  have F_L_named1 : Fn P w K mg base 1 "_law_named" fs_L_named := ok_L_named (k := 0) T
  have F_is_shape_name : Fn P w K mg base 1 "is_shape_name" fs_is_shape_name := ok_is_shape_name (k := 0) T
  have F_is_node : Fn P w K mg base 2 "is_node" fs_is_node := ok_is_node T F_is_shape_name
  have F_is_shape : Fn P w K mg base 4 "is_shape" fs_is_shape := ok_is_shape T (ok_is_shape_within T F_is_node)
  have F_variables_of : Fn P w K mg base 2 "variables_of" fs_variables_of := ok_variables_of T (ok_occurrences (k := 0) T)
  have F_L_right : Fn P w K mg base 194 "_law_right" fs_L_right := (ok_L_right (k := 100) T ((ok_L_look (b := 1) T F_L_named1 61).mono (by decide)) ((ok_L_same (b := 0) T 5).mono (by decide)) ((ok_L_vars (b := 0) T 30).mono (by decide)) ((ok_count_nodes (b := 0) T 30).mono (by decide)) (F_is_shape.mono (by decide)) (F_variables_of.mono (by decide))).mono (by decide)
  let dr : Option Addr := none
  have T' : Tp (fcx P w K mg base n_law "law" s_law f cdv A outer s H E).K (fcx P w K mg base n_law "law" s_law f cdv A outer s H E).mg := T
  have v0 : (fcx P w K mg base n_law "law" s_law f cdv A outer s H E).N[0]? = some ("_law_script" : Str) := rfl
  have w0 : Vis (fcx P w K mg base n_law "law" s_law f cdv A outer s H E).env.scope "_law_script" := by walk_at "dv"
  have l0 : Loc (fcx P w K mg base n_law "law" s_law f cdv A outer s H E).env.scope "_law_script" := by walk_at "dl"
  have v1 : (fcx P w K mg base n_law "law" s_law f cdv A outer s H E).N[1]? = some ("_law_drawn" : Str) := rfl
  have w1 : Vis (fcx P w K mg base n_law "law" s_law f cdv A outer s H E).env.scope "_law_drawn" := by walk_at "dv"
  have l1 : Loc (fcx P w K mg base n_law "law" s_law f cdv A outer s H E).env.scope "_law_drawn" := by walk_at "dl"
  have v2 : (fcx P w K mg base n_law "law" s_law f cdv A outer s H E).N[2]? = some ("_law_turn" : Str) := rfl
  have w2 : Vis (fcx P w K mg base n_law "law" s_law f cdv A outer s H E).env.scope "_law_turn" := by walk_at "dv"
  have l2 : Loc (fcx P w K mg base n_law "law" s_law f cdv A outer s H E).env.scope "_law_turn" := by walk_at "dl"
  have v3 : (fcx P w K mg base n_law "law" s_law f cdv A outer s H E).N[3]? = some ("_law_many" : Str) := rfl
  have w3 : Vis (fcx P w K mg base n_law "law" s_law f cdv A outer s H E).env.scope "_law_many" := by walk_at "dv"
  have l3 : Loc (fcx P w K mg base n_law "law" s_law f cdv A outer s H E).env.scope "_law_many" := by walk_at "dl"
  have v4 : (fcx P w K mg base n_law "law" s_law f cdv A outer s H E).N[4]? = some ("_law_shape" : Str) := rfl
  have w4 : Vis (fcx P w K mg base n_law "law" s_law f cdv A outer s H E).env.scope "_law_shape" := by walk_at "dv"
  have l4 : Loc (fcx P w K mg base n_law "law" s_law f cdv A outer s H E).env.scope "_law_shape" := by walk_at "dl"
  have v5 : (fcx P w K mg base n_law "law" s_law f cdv A outer s H E).N[5]? = some ("_law_high" : Str) := rfl
  have w5 : Vis (fcx P w K mg base n_law "law" s_law f cdv A outer s H E).env.scope "_law_high" := by walk_at "dv"
  have l5 : Loc (fcx P w K mg base n_law "law" s_law f cdv A outer s H E).env.scope "_law_high" := by walk_at "dl"
  have v6 : (fcx P w K mg base n_law "law" s_law f cdv A outer s H E).N[6]? = some ("_law_value" : Str) := rfl
  have w6 : Vis (fcx P w K mg base n_law "law" s_law f cdv A outer s H E).env.scope "_law_value" := by walk_at "dv"
  have l6 : Loc (fcx P w K mg base n_law "law" s_law f cdv A outer s H E).env.scope "_law_value" := by walk_at "dl"
  have v7 : (fcx P w K mg base n_law "law" s_law f cdv A outer s H E).N[7]? = some ("_law_signs" : Str) := rfl
  have w7 : Vis (fcx P w K mg base n_law "law" s_law f cdv A outer s H E).env.scope "_law_signs" := by walk_at "dv"
  have l7 : Loc (fcx P w K mg base n_law "law" s_law f cdv A outer s H E).env.scope "_law_signs" := by walk_at "dl"
  have v8 : (fcx P w K mg base n_law "law" s_law f cdv A outer s H E).N[8]? = some ("_law_name" : Str) := rfl
  have w8 : Vis (fcx P w K mg base n_law "law" s_law f cdv A outer s H E).env.scope "_law_name" := by walk_at "dv"
  have l8 : Loc (fcx P w K mg base n_law "law" s_law f cdv A outer s H E).env.scope "_law_name" := by walk_at "dl"
  have nd : (fcx P w K mg base n_law "law" s_law f cdv A outer s H E).N.Nodup := sc_law.nd
  have c_L_draws := Fn.cal (X := (fcx P w K mg base n_law "law" s_law f cdv A outer s H E)) F_L_draws hr hgd
  have c_L_next := Fn.cal (X := (fcx P w K mg base n_law "law" s_law f cdv A outer s H E)) F_L_next hr hgd
  have c_L_odd := Fn.cal (X := (fcx P w K mg base n_law "law" s_law f cdv A outer s H E)) F_L_odd hr hgd
  have c_L_one := Fn.cal (X := (fcx P w K mg base n_law "law" s_law f cdv A outer s H E)) F_L_one hr hgd
  have c_L_other := Fn.cal (X := (fcx P w K mg base n_law "law" s_law f cdv A outer s H E)) F_L_other hr hgd
  have c_L_right := Fn.cal (X := (fcx P w K mg base n_law "law" s_law f cdv A outer s H E)) F_L_right hr hgd
  have c_L_sized := Fn.cal (X := (fcx P w K mg base n_law "law" s_law f cdv A outer s H E)) F_L_sized hr hgd
  have c_L_tower := Fn.cal (X := (fcx P w K mg base n_law "law" s_law f cdv A outer s H E)) F_L_tower hr hgd
  have b_range := T'.b_range
  have rm : Rm ⟨(fcx P w K mg base n_law "law" s_law f cdv A outer s H E), H, dr⟩ := rm_of hr
  have gd : Gd ⟨(fcx P w K mg base n_law "law" s_law f cdv A outer s H E), H, dr⟩ := hgd
  rw [show List.replicate (n_law.length - [("_law_script" : Str)].length) SV.no = [.no, .no, .no, .no, .no, .no, .no, .no] from rfl]
  try walk_at "dz"
  refine db_drw ?_ rfl nd v1 l1
  refine dl_f c_L_draws ?_
  walk_at "d"
  refine ⟨ns, rfl, hl, fun g m hg hm hm2 => ⟨_, rfl, g, m, 0, rfl, hg, hm, hm2, by decide, by simp, fun q => ?_⟩⟩
  walk_at "dz"
  show DB ⟨fcx P w K mg base n_law "law" s_law f cdv A outer s H E, H, some q⟩ _ _ _ _ _ _
  have hcap : (201 : Int) ≤ cap 30 := by decide +kernel
  refine db_seq (fun ρ => ∃ s2 s3 s4 s5 s6, ρ = [.scr ns, .drw, s2, s3, s4, s5, s6, .no, .no]) ?_ ?_
  · refine ds_for (di_range1 b_range rfl ?_)
    walk_at "d"
    refine ⟨by decide, by decide, fun i ρ => ∃ s2 s3 s4 s5 s6, ρ = [.scr ns, .drw, s2, s3, s4, s5, s6, .no, .no], ⟨_, _, _, _, _, rfl⟩, ?_, ?_⟩
    · rintro i e ρ he ⟨s2, s3, s4, s5, s6, rfl⟩
      obtain ⟨hi, rfl⟩ := upTo_get he
      refine gt_name v2 l2 nd ?_
      walk_at "dz"
      walk_at "d"
      refine ⟨60, rfl, by decide, by decide, fun r hr0 hr1 => ?_⟩
      walk_at "d"
      refine ⟨_, rfl, by simp, by simp, fun d hd => ?_⟩
      have hd2 : ∃ m : Int, d = .int m ∧ 1 ≤ m ∧ m ≤ 201 := by
        simp only [List.mem_cons, List.not_mem_nil, or_false] at hd
        rcases hd with rfl | rfl | rfl | rfl | rfl | rfl | rfl | rfl <;> exact ⟨_, rfl, by omega, by omega⟩
      obtain ⟨m2, rfl, hm20, hm21⟩ := hd2
      walk_at "d"
      walk_at "dz"
      walk_at "d"
      refine ⟨_, rfl, by simp, by simp, fun d hd => ?_⟩
      have hd2 : ∃ m : Int, d = .int m ∧ 1 ≤ m ∧ m ≤ 200 := by
        simp only [List.mem_cons, List.not_mem_nil, or_false] at hd
        rcases hd with rfl | rfl | rfl <;> exact ⟨_, rfl, by omega, by omega⟩
      obtain ⟨l2, rfl, hl20, hl21⟩ := hd2
      walk_at "d"
      refine ⟨_, _, rfl, hm20, by omega, hm21, by omega, hl21, fun sh hsh => ?_⟩
      replace c_L_sized := Fn.cal (X := (fcx P w K mg base n_law "law" s_law f cdv A outer s H E)) F_L_sized4 hr hgd
      have hcap4 : cap 4 = 4 := by decide +kernel
      walk_at "d"
      walk_at "dz"
      walk_at "d"
      refine ⟨8, rfl, by decide, by decide, fun r2 hr20 hr21 => ?_⟩
      walk_at "d"
      refine ⟨4, rfl, by decide, by decide, fun r3 hr30 hr31 => ?_⟩
      walk_at "d"
      refine ⟨_, _, rfl, by omega, by omega, by omega, by decide, by decide, fun sm hsm => ?_⟩
      walk_at "d"
      refine ⟨_, _, _, _, rfl, by omega, by omega, by decide, hsm, fun hg hhg => ?_⟩
      walk_at "d"
      walk_at "dz"
      have gsh : Gs 17688 30 sh := hsh.mono (by omega) (by omega)
      have ghg : Gs 10272 35 hg := hhg.mono (by omega) (by omega)
      clear hsh hhg
      refine ds_mid (fun ρ => ∃ s6, ρ = [.scr ns, .drw, .dat (.int (0 + i)), .dat (.int m2), .dat sh, .dat hg, s6, .no, .no]) ?_ ?_
      · refine ds_for (di_lst ?_)
        walk_at "d"
        refine ⟨rfl, fun d1 hd1 => ?_⟩
        walk_at "d"
        refine ⟨sh, _, rfl, gsh.t, by have := gsh.dp; omega, by have := gsh.w; omega, fun o1 ho1 => ?_⟩
        walk_at "d"
        refine ⟨rfl, fun d2 hd2 => ?_⟩
        walk_at "d"
        refine ⟨hg, _, rfl, ghg.t, by have := ghg.dp; omega, by have := ghg.w; omega, fun o2 ho2 => ?_⟩
        walk_at "d"
        have hcl : ∀ z ∈ [sh, hg, o1, o2], Cls z := by
          intro z hz
          simp only [List.mem_cons, List.not_mem_nil, or_false] at hz
          rcases hz with rfl | rfl | rfl | rfl
          · exact Cls.of_gs gsh (by decide) (by decide)
          · exact Cls.of_gs ghg (by decide) (by decide)
          · exact Cls.other gsh hd1 ho1 (by decide) (by decide)
          · exact Cls.other ghg hd2 ho2 (by decide) (by decide)
        refine ⟨fun j ρ => ∃ s6, ρ = [.scr ns, .drw, .dat (.int (0 + i)), .dat (.int m2), .dat sh, .dat hg, s6, .no, .no], ⟨_, rfl⟩, ?_, ?_⟩
        · rintro j e ρ he2 ⟨s6, rfl⟩
          have hc := hcl e (List.mem_of_getElem? he2)
          refine gt_name v6 l6 nd ?_
          walk_at "dz"
          walk_at "d"
          refine ⟨e, rfl, hc, ?_⟩
          walk_at "d"
          exact ⟨_, rfl⟩
        · rintro ρ ⟨s6, rfl⟩
          exact ⟨_, rfl⟩
      rintro ρ ⟨s6, rfl⟩
      walk_at "d"
      refine ⟨rfl, fun d1 hd1 => ?_⟩
      walk_at "d"
      refine ⟨_, rfl, Cls.odd hd1, ?_⟩
      walk_at "d"
      refine ⟨sh, _, rfl, gsh.t, by have := gsh.dp; omega, by have := gsh.w; omega, fun o1 ho1 => ?_⟩
      walk_at "d"
      refine ⟨_, rfl, Cls.self gsh ho1 (by decide) (by decide), ?_⟩
      walk_at "d"
      exact ⟨_, _, _, _, _, rfl⟩
    · rintro ρ ⟨s2, s3, s4, s5, s6, rfl⟩
      exact ⟨_, _, _, _, _, rfl⟩
  rintro ρ ⟨s2, s3, s4, s5, s6, rfl⟩
  refine db_cons ?_
  with_reducible refine ds_set (i := 7) (x := "_law_signs") ?h1 ?h2 ?h3 ?h4 ?h5 ?h6
  case h2 => exact nd
  case h3 => exact v7
  case h4 => exact l7
  case h5 => rfl
  case h6 => exact .inl rfl
  with_reducible show DE _ _ (Expr.List _ _) _
  refine de_lit (n := 2) ?_ ?_
  · decide +kernel
  generalize hv_s : litV 2 _ = v_s
  have hw_s : v_s = .list (lsigns.map .str) := by rw [← hv_s]; simp only [litV, List.map]; rfl
  clear hv_s
  subst hw_s
  generalize hls : lsigns = ls
  refine ⟨_, rfl, ?_⟩
  walk_at "dz"
  refine db_cons ?_
  refine ds_mid (fun ρ => ∃ s2 s3 s4 s5 s6 s7 s8, ρ = [.scr ns, .drw, s2, s3, s4, s5, s6, s7, s8]) ?_ ?_
  · refine ds_for (di_lst ?_)
    walk_at "d"
    refine ⟨fun i ρ => ∃ s6 s8, ρ = [.scr ns, .drw, s2, s3, s4, s5, s6, .dat (.list (ls.map .str)), s8], ⟨_, _, rfl⟩, ?_, ?_⟩
    · rintro i e ρ he ⟨s6, s8, rfl⟩
      have hx : ∃ x, e = .str x ∧ texts.contains x = true := by
        have := List.mem_of_getElem? he
        subst hls
        exact gs_str this (by decide +kernel)
      obtain ⟨x, rfl, hx⟩ := hx
      refine gt_name v8 l8 nd ?_
      walk_at "dz"
      refine db_cons ?_
      refine ds_mid (fun ρ => ∃ s6, ρ = [.scr ns, .drw, s2, s3, s4, s5, s6, .dat (.list (ls.map .str)), .dat (.str x)]) ?_ ?_
      · refine ds_for (di_lst ?_)
        walk_at "d"
        refine ⟨fun i ρ => ∃ s6, ρ = [.scr ns, .drw, s2, s3, s4, s5, s6, .dat (.list (ls.map .str)), .dat (.str x)], ⟨_, rfl⟩, ?_, ?_⟩
        · rintro j e ρ he2 ⟨s6, rfl⟩
          have hc := vals_ok hx (d := e) (List.mem_of_getElem? he2)
          refine gt_name v6 l6 nd ?_
          walk_at "dz"
          walk_at "d"
          refine ⟨e, rfl, hc.1, ?_⟩
          walk_at "d"
          refine ⟨_, rfl, hc.2, ?_⟩
          walk_at "d"
          exact ⟨_, rfl⟩
        · rintro ρ ⟨s6, rfl⟩
          exact ⟨_, rfl⟩
      rintro ρ ⟨s6, rfl⟩
      refine db_nil ?_
      exact ⟨_, _, rfl⟩
    · rintro ρ ⟨s6, s8, rfl⟩
      exact ⟨_, _, _, _, _, _, _, rfl⟩
  rintro ρ ⟨s2, s3, s4, s5, s6, s7, s8, rfl⟩
  walk_at "d"
  try rfl
end
end K01
namespace K01
open PySem L2 DW
theorem tp_mk {K : PySem.W.Frag} {h : Heap} {mg : Str → Option Value} (X : K.In h) (G : h.Ns mainGlobals mg)
    {f1 f2 f3 f4 f5 f6 f7 f8 f9 f10 f11 f12 f13 f14 f15 f16 f17 f18 f19 f20 f21 : Addr} {od1 an1 od2 an2 od3 an3 od4 an4 od5 an5 od6 an6 od7 an7 od8 an8 od9 an9 od10 an10 od11 an11 od12 an12 od13 an13 od14 an14 od15 an15 od16 an16 od17 an17 od18 an18 od19 an19 od20 an20 od21 an21 : Option Addr} {sl1 sl2 sl3 sl4 sl5 sl6 sl7 sl8 sl9 sl10 sl11 sl12 sl13 sl14 sl15 sl16 sl17 sl18 sl19 sl20 sl21 : Array (Option Value)} {oc1 kV1 dc1 pm1 cd1 ct1 oc2 kV2 dc2 pm2 cd2 ct2 oc3 kV3 dc3 pm3 cd3 ct3 oc4 kV4 dc4 pm4 cd4 ct4 oc5 kV5 dc5 pm5 cd5 ct5 oc6 kV6 dc6 pm6 cd6 ct6 oc7 kV7 dc7 pm7 cd7 ct7 oc8 kV8 dc8 pm8 cd8 ct8 oc9 kV9 dc9 pm9 cd9 ct9 oc10 kV10 dc10 pm10 cd10 ct10 oc11 kV11 dc11 pm11 cd11 ct11 oc12 kV12 dc12 pm12 cd12 ct12 oc13 kV13 dc13 pm13 cd13 ct13 oc14 kV14 dc14 pm14 cd14 ct14 oc15 kV15 dc15 pm15 cd15 ct15 oc16 kV16 dc16 pm16 cd16 ct16 oc17 kV17 dc17 pm17 cd17 ct17 oc18 kV18 dc18 pm18 cd18 ct18 oc19 kV19 dc19 pm19 cd19 ct19 oc20 kV20 dc20 pm20 cd20 ct20 oc21 kV21 dc21 pm21 cd21 ct21 : Value}
    {t1 t2 t3 t4 t5 t6 t7 t8 : Tok}
    (a1 : PySem.W.nsIn K mainGlobals "is_shape_name" = some (some (.ref f1)))
    (l1 : K.lookup f1 = some ⟨oc1, od1, .func (PySem.W.fnOf "is_shape_name" "is_shape_name" (defArgs s_is_shape_name) (defBody s_is_shape_name) (defScope s_is_shape_name) .none kV1 dc1 pm1 an1 cd1 ct1), sl1⟩) (c1 : PySem.W.codeIn K cd1 "is_shape_name" = true) (k1 : PySem.W.keepIn K (.ref f1) = true)
    (a2 : PySem.W.nsIn K mainGlobals "is_node" = some (some (.ref f2)))
    (l2 : K.lookup f2 = some ⟨oc2, od2, .func (PySem.W.fnOf "is_node" "is_node" (defArgs s_is_node) (defBody s_is_node) (defScope s_is_node) .none kV2 dc2 pm2 an2 cd2 ct2), sl2⟩) (c2 : PySem.W.codeIn K cd2 "is_node" = true) (k2 : PySem.W.keepIn K (.ref f2) = true)
    (a3 : PySem.W.nsIn K mainGlobals "is_shape_within" = some (some (.ref f3)))
    (l3 : K.lookup f3 = some ⟨oc3, od3, .func (PySem.W.fnOf "is_shape_within" "is_shape_within" (defArgs s_is_shape_within) (defBody s_is_shape_within) (defScope s_is_shape_within) .none kV3 dc3 pm3 an3 cd3 ct3), sl3⟩) (c3 : PySem.W.codeIn K cd3 "is_shape_within" = true) (k3 : PySem.W.keepIn K (.ref f3) = true)
    (a4 : PySem.W.nsIn K mainGlobals "is_shape" = some (some (.ref f4)))
    (l4 : K.lookup f4 = some ⟨oc4, od4, .func (PySem.W.fnOf "is_shape" "is_shape" (defArgs s_is_shape) (defBody s_is_shape) (defScope s_is_shape) .none kV4 dc4 pm4 an4 cd4 ct4), sl4⟩) (c4 : PySem.W.codeIn K cd4 "is_shape" = true) (k4 : PySem.W.keepIn K (.ref f4) = true)
    (a5 : PySem.W.nsIn K mainGlobals "occurrences" = some (some (.ref f5)))
    (l5 : K.lookup f5 = some ⟨oc5, od5, .func (PySem.W.fnOf "occurrences" "occurrences" (defArgs s_occurrences) (defBody s_occurrences) (defScope s_occurrences) .none kV5 dc5 pm5 an5 cd5 ct5), sl5⟩) (c5 : PySem.W.codeIn K cd5 "occurrences" = true) (k5 : PySem.W.keepIn K (.ref f5) = true)
    (a6 : PySem.W.nsIn K mainGlobals "variables_of" = some (some (.ref f6)))
    (l6 : K.lookup f6 = some ⟨oc6, od6, .func (PySem.W.fnOf "variables_of" "variables_of" (defArgs s_variables_of) (defBody s_variables_of) (defScope s_variables_of) .none kV6 dc6 pm6 an6 cd6 ct6), sl6⟩) (c6 : PySem.W.codeIn K cd6 "variables_of" = true) (k6 : PySem.W.keepIn K (.ref f6) = true)
    (a7 : PySem.W.nsIn K mainGlobals "count_nodes" = some (some (.ref f7)))
    (l7 : K.lookup f7 = some ⟨oc7, od7, .func (PySem.W.fnOf "count_nodes" "count_nodes" (defArgs s_count_nodes) (defBody s_count_nodes) (defScope s_count_nodes) .none kV7 dc7 pm7 an7 cd7 ct7), sl7⟩) (c7 : PySem.W.codeIn K cd7 "count_nodes" = true) (k7 : PySem.W.keepIn K (.ref f7) = true)
    (a8 : PySem.W.nsIn K mainGlobals "_law_draws" = some (some (.ref f8)))
    (l8 : K.lookup f8 = some ⟨oc8, od8, .func (PySem.W.fnOf "_law_draws" "_law_draws" (defArgs s_L_draws) (defBody s_L_draws) (defScope s_L_draws) .none kV8 dc8 pm8 an8 cd8 ct8), sl8⟩) (c8 : PySem.W.codeIn K cd8 "_law_draws" = true) (k8 : PySem.W.keepIn K (.ref f8) = true)
    (a9 : PySem.W.nsIn K mainGlobals "_law_next" = some (some (.ref f9)))
    (l9 : K.lookup f9 = some ⟨oc9, od9, .func (PySem.W.fnOf "_law_next" "_law_next" (defArgs s_L_next) (defBody s_L_next) (defScope s_L_next) .none kV9 dc9 pm9 an9 cd9 ct9), sl9⟩) (c9 : PySem.W.codeIn K cd9 "_law_next" = true) (k9 : PySem.W.keepIn K (.ref f9) = true)
    (a10 : PySem.W.nsIn K mainGlobals "_law_one" = some (some (.ref f10)))
    (l10 : K.lookup f10 = some ⟨oc10, od10, .func (PySem.W.fnOf "_law_one" "_law_one" (defArgs s_L_one) (defBody s_L_one) (defScope s_L_one) .none kV10 dc10 pm10 an10 cd10 ct10), sl10⟩) (c10 : PySem.W.codeIn K cd10 "_law_one" = true) (k10 : PySem.W.keepIn K (.ref f10) = true)
    (a11 : PySem.W.nsIn K mainGlobals "_law_same" = some (some (.ref f11)))
    (l11 : K.lookup f11 = some ⟨oc11, od11, .func (PySem.W.fnOf "_law_same" "_law_same" (defArgs s_L_same) (defBody s_L_same) (defScope s_L_same) .none kV11 dc11 pm11 an11 cd11 ct11), sl11⟩) (c11 : PySem.W.codeIn K cd11 "_law_same" = true) (k11 : PySem.W.keepIn K (.ref f11) = true)
    (a12 : PySem.W.nsIn K mainGlobals "_law_vars" = some (some (.ref f12)))
    (l12 : K.lookup f12 = some ⟨oc12, od12, .func (PySem.W.fnOf "_law_vars" "_law_vars" (defArgs s_L_vars) (defBody s_L_vars) (defScope s_L_vars) .none kV12 dc12 pm12 an12 cd12 ct12), sl12⟩) (c12 : PySem.W.codeIn K cd12 "_law_vars" = true) (k12 : PySem.W.keepIn K (.ref f12) = true)
    (a13 : PySem.W.nsIn K mainGlobals "_law_leaf" = some (some (.ref f13)))
    (l13 : K.lookup f13 = some ⟨oc13, od13, .func (PySem.W.fnOf "_law_leaf" "_law_leaf" (defArgs s_L_leaf) (defBody s_L_leaf) (defScope s_L_leaf) .none kV13 dc13 pm13 an13 cd13 ct13), sl13⟩) (c13 : PySem.W.codeIn K cd13 "_law_leaf" = true) (k13 : PySem.W.keepIn K (.ref f13) = true)
    (a14 : PySem.W.nsIn K mainGlobals "_law_sized" = some (some (.ref f14)))
    (l14 : K.lookup f14 = some ⟨oc14, od14, .func (PySem.W.fnOf "_law_sized" "_law_sized" (defArgs s_L_sized) (defBody s_L_sized) (defScope s_L_sized) .none kV14 dc14 pm14 an14 cd14 ct14), sl14⟩) (c14 : PySem.W.codeIn K cd14 "_law_sized" = true) (k14 : PySem.W.keepIn K (.ref f14) = true)
    (a15 : PySem.W.nsIn K mainGlobals "_law_tower" = some (some (.ref f15)))
    (l15 : K.lookup f15 = some ⟨oc15, od15, .func (PySem.W.fnOf "_law_tower" "_law_tower" (defArgs s_L_tower) (defBody s_L_tower) (defScope s_L_tower) .none kV15 dc15 pm15 an15 cd15 ct15), sl15⟩) (c15 : PySem.W.codeIn K cd15 "_law_tower" = true) (k15 : PySem.W.keepIn K (.ref f15) = true)
    (a16 : PySem.W.nsIn K mainGlobals "_law_other" = some (some (.ref f16)))
    (l16 : K.lookup f16 = some ⟨oc16, od16, .func (PySem.W.fnOf "_law_other" "_law_other" (defArgs s_L_other) (defBody s_L_other) (defScope s_L_other) .none kV16 dc16 pm16 an16 cd16 ct16), sl16⟩) (c16 : PySem.W.codeIn K cd16 "_law_other" = true) (k16 : PySem.W.keepIn K (.ref f16) = true)
    (a17 : PySem.W.nsIn K mainGlobals "_law_odd" = some (some (.ref f17)))
    (l17 : K.lookup f17 = some ⟨oc17, od17, .func (PySem.W.fnOf "_law_odd" "_law_odd" (defArgs s_L_odd) (defBody s_L_odd) (defScope s_L_odd) .none kV17 dc17 pm17 an17 cd17 ct17), sl17⟩) (c17 : PySem.W.codeIn K cd17 "_law_odd" = true) (k17 : PySem.W.keepIn K (.ref f17) = true)
    (a18 : PySem.W.nsIn K mainGlobals "_law_named" = some (some (.ref f18)))
    (l18 : K.lookup f18 = some ⟨oc18, od18, .func (PySem.W.fnOf "_law_named" "_law_named" (defArgs s_L_named) (defBody s_L_named) (defScope s_L_named) .none kV18 dc18 pm18 an18 cd18 ct18), sl18⟩) (c18 : PySem.W.codeIn K cd18 "_law_named" = true) (k18 : PySem.W.keepIn K (.ref f18) = true)
    (a19 : PySem.W.nsIn K mainGlobals "_law_look" = some (some (.ref f19)))
    (l19 : K.lookup f19 = some ⟨oc19, od19, .func (PySem.W.fnOf "_law_look" "_law_look" (defArgs s_L_look) (defBody s_L_look) (defScope s_L_look) .none kV19 dc19 pm19 an19 cd19 ct19), sl19⟩) (c19 : PySem.W.codeIn K cd19 "_law_look" = true) (k19 : PySem.W.keepIn K (.ref f19) = true)
    (a20 : PySem.W.nsIn K mainGlobals "_law_right" = some (some (.ref f20)))
    (l20 : K.lookup f20 = some ⟨oc20, od20, .func (PySem.W.fnOf "_law_right" "_law_right" (defArgs s_L_right) (defBody s_L_right) (defScope s_L_right) .none kV20 dc20 pm20 an20 cd20 ct20), sl20⟩) (c20 : PySem.W.codeIn K cd20 "_law_right" = true) (k20 : PySem.W.keepIn K (.ref f20) = true)
    (a21 : PySem.W.nsIn K mainGlobals "law" = some (some (.ref f21)))
    (l21 : K.lookup f21 = some ⟨oc21, od21, .func (PySem.W.fnOf "law" "law" (defArgs s_law) (defBody s_law) (defScope s_law) .none kV21 dc21 pm21 an21 cd21 ct21), sl21⟩) (c21 : PySem.W.codeIn K cd21 "law" = true) (k21 : PySem.W.keepIn K (.ref f21) = true)
    (z_abs : PySem.W.nsIn K mainGlobals "abs" = some none)
    (z_all : PySem.W.nsIn K mainGlobals "all" = some none)
    (z_bool : PySem.W.nsIn K mainGlobals "bool" = some none)
    (z_int : PySem.W.nsIn K mainGlobals "int" = some none)
    (z_isinstance : PySem.W.nsIn K mainGlobals "isinstance" = some none)
    (z_len : PySem.W.nsIn K mainGlobals "len" = some none)
    (z_list : PySem.W.nsIn K mainGlobals "list" = some none)
    (z_max : PySem.W.nsIn K mainGlobals "max" = some none)
    (z_min : PySem.W.nsIn K mainGlobals "min" = some none)
    (z_range : PySem.W.nsIn K mainGlobals "range" = some none)
    (z_repr : PySem.W.nsIn K mainGlobals "repr" = some none)
    (z_str : PySem.W.nsIn K mainGlobals "str" = some none)
    (z_sum : PySem.W.nsIn K mainGlobals "sum" = some none)
    (z_tuple : PySem.W.nsIn K mainGlobals "tuple" = some none)
    (y_VARIABLES : PySem.W.nsIn K mainGlobals "VARIABLES" = some (some (.int 199 t1)))
    (y_NODES : PySem.W.nsIn K mainGlobals "NODES" = some (some (.int 200 t2)))
    (y_DEPTH : PySem.W.nsIn K mainGlobals "DEPTH" = some (some (.int 30 t3)))
    (y_CAPITALS : PySem.W.nsIn K mainGlobals "CAPITALS" = some (some (.str "ABCDEFGHIJKLMNOPQRSTUVWXYZ" t4)))
    (y_SIGNS : PySem.W.nsIn K mainGlobals "SIGNS" = some (some (.str "abcdefghijklmnopqrstuvwxyzABCDEFGHIJKLMNOPQRSTUVWXYZ0123456789" t5)))
    (y_LONGEST : PySem.W.nsIn K mainGlobals "LONGEST" = some (some (.int 8 t6)))
    (y_MOST_PARTS : PySem.W.nsIn K mainGlobals "MOST_PARTS" = some (some (.int 3 t7)))
    (y_ARROW : PySem.W.nsIn K mainGlobals "ARROW" = some (some (.str "->" t8)))
    : Tp K mg := ⟨
    df_mk X G a1 l1 c1 k1 (fun _ _ _ _ _ _ us hl => match us, hl with | [_], _ => rfl),
    df_mk X G a2 l2 c2 k2 (fun _ _ _ _ _ _ us hl => match us, hl with | [_], _ => rfl),
    df_mk X G a3 l3 c3 k3 (fun _ _ _ _ _ _ us hl => match us, hl with | [_, _, _], _ => rfl),
    df_mk X G a4 l4 c4 k4 (fun _ _ _ _ _ _ us hl => match us, hl with | [_], _ => rfl),
    df_mk X G a5 l5 c5 k5 (fun _ _ _ _ _ _ us hl => match us, hl with | [_], _ => rfl),
    df_mk X G a6 l6 c6 k6 (fun _ _ _ _ _ _ us hl => match us, hl with | [_], _ => rfl),
    df_mk X G a7 l7 c7 k7 (fun _ _ _ _ _ _ us hl => match us, hl with | [_], _ => rfl),
    df_mk X G a8 l8 c8 k8 (fun _ _ _ _ _ _ us hl => match us, hl with | [_], _ => rfl),
    df_mk X G a9 l9 c9 k9 (fun _ _ _ _ _ _ us hl => match us, hl with | [_, _], _ => rfl),
    df_mk X G a10 l10 c10 k10 (fun _ _ _ _ _ _ us hl => match us, hl with | [_, _], _ => rfl),
    df_mk X G a11 l11 c11 k11 (fun _ _ _ _ _ _ us hl => match us, hl with | [_, _], _ => rfl),
    df_mk X G a12 l12 c12 k12 (fun _ _ _ _ _ _ us hl => match us, hl with | [_], _ => rfl),
    df_mk X G a13 l13 c13 k13 (fun _ _ _ _ _ _ us hl => match us, hl with | [_, _], _ => rfl),
    df_mk X G a14 l14 c14 k14 (fun _ _ _ _ _ _ us hl => match us, hl with | [_, _, _], _ => rfl),
    df_mk X G a15 l15 c15 k15 (fun _ _ _ _ _ _ us hl => match us, hl with | [_, _, _], _ => rfl),
    df_mk X G a16 l16 c16 k16 (fun _ _ _ _ _ _ us hl => match us, hl with | [_, _, _], _ => rfl),
    df_mk X G a17 l17 c17 k17 (fun _ _ _ _ _ _ us hl => match us, hl with | [_], _ => rfl),
    df_mk X G a18 l18 c18 k18 (fun _ _ _ _ _ _ us hl => match us, hl with | [_, _], _ => rfl),
    df_mk X G a19 l19 c19 k19 (fun _ _ _ _ _ _ us hl => match us, hl with | [_], _ => rfl),
    df_mk X G a20 l20 c20 k20 (fun _ _ _ _ _ _ us hl => match us, hl with | [_], _ => rfl),
    df_mk X G a21 l21 c21 k21 (fun _ _ _ _ _ _ us hl => match us, hl with | [_], _ => rfl),
    PySem.W.mg_none_of X G z_abs, PySem.W.mg_none_of X G z_all, PySem.W.mg_none_of X G z_bool, PySem.W.mg_none_of X G z_int, PySem.W.mg_none_of X G z_isinstance, PySem.W.mg_none_of X G z_len, PySem.W.mg_none_of X G z_list, PySem.W.mg_none_of X G z_max, PySem.W.mg_none_of X G z_min, PySem.W.mg_none_of X G z_range, PySem.W.mg_none_of X G z_repr, PySem.W.mg_none_of X G z_str, PySem.W.mg_none_of X G z_sum, PySem.W.mg_none_of X G z_tuple, ⟨_, PySem.W.mg_of X G y_VARIABLES⟩, ⟨_, PySem.W.mg_of X G y_NODES⟩, ⟨_, PySem.W.mg_of X G y_DEPTH⟩, ⟨_, PySem.W.mg_of X G y_CAPITALS⟩, ⟨_, PySem.W.mg_of X G y_SIGNS⟩, ⟨_, PySem.W.mg_of X G y_LONGEST⟩, ⟨_, PySem.W.mg_of X G y_MOST_PARTS⟩, ⟨_, PySem.W.mg_of X G y_ARROW⟩⟩
end K01
open PySem PySem.W PyProof.Rows
set_option maxRecDepth 100000 in
set_option maxHeartbeats 0 in
theorem PySem.Challenge.cw_shapelang_k01_shapes_holds : PySem.Challenge.rw_shapelang_k01_shapes.Holds := by
  w_on; o_law; k_head; (case hw => w_witness2)
  k_fill
  refine DW.walk_law (l := PySem.Challenge.rw_shapelang_k01_shapes) (k := 195) (x := "_law_script") rfl rfl ⟨rfl, by decide, by decide⟩ (fun w h Y => PySem.W.kIn_of Y) ?F
  case F =>
    intro w mg h KX G
    refine' K01.law_of (K01.tp_mk KX G ?a1 ?l1 ?c1 ?k1 ?a2 ?l2 ?c2 ?k2 ?a3 ?l3 ?c3 ?k3 ?a4 ?l4 ?c4 ?k4 ?a5 ?l5 ?c5 ?k5 ?a6 ?l6 ?c6 ?k6 ?a7 ?l7 ?c7 ?k7 ?a8 ?l8 ?c8 ?k8 ?a9 ?l9 ?c9 ?k9 ?a10 ?l10 ?c10 ?k10 ?a11 ?l11 ?c11 ?k11 ?a12 ?l12 ?c12 ?k12 ?a13 ?l13 ?c13 ?k13 ?a14 ?l14 ?c14 ?k14 ?a15 ?l15 ?c15 ?k15 ?a16 ?l16 ?c16 ?k16 ?a17 ?l17 ?c17 ?k17 ?a18 ?l18 ?c18 ?k18 ?a19 ?l19 ?c19 ?k19 ?a20 ?l20 ?c20 ?k20 ?a21 ?l21 ?c21 ?k21 ?z_abs ?z_all ?z_bool ?z_int ?z_isinstance ?z_len ?z_list ?z_max ?z_min ?z_range ?z_repr ?z_str ?z_sum ?z_tuple ?y_VARIABLES ?y_NODES ?y_DEPTH ?y_CAPITALS ?y_SIGNS ?y_LONGEST ?y_MOST_PARTS ?y_ARROW)
    (case a1 => k_is); (case l1 => k_is); (case c1 => k_is); (case k1 => k_is)
    (case a2 => k_is); (case l2 => k_is); (case c2 => k_is); (case k2 => k_is)
    (case a3 => k_is); (case l3 => k_is); (case c3 => k_is); (case k3 => k_is)
    (case a4 => k_is); (case l4 => k_is); (case c4 => k_is); (case k4 => k_is)
    (case a5 => k_is); (case l5 => k_is); (case c5 => k_is); (case k5 => k_is)
    (case a6 => k_is); (case l6 => k_is); (case c6 => k_is); (case k6 => k_is)
    (case a7 => k_is); (case l7 => k_is); (case c7 => k_is); (case k7 => k_is)
    (case a8 => k_is); (case l8 => k_is); (case c8 => k_is); (case k8 => k_is)
    (case a9 => k_is); (case l9 => k_is); (case c9 => k_is); (case k9 => k_is)
    (case a10 => k_is); (case l10 => k_is); (case c10 => k_is); (case k10 => k_is)
    (case a11 => k_is); (case l11 => k_is); (case c11 => k_is); (case k11 => k_is)
    (case a12 => k_is); (case l12 => k_is); (case c12 => k_is); (case k12 => k_is)
    (case a13 => k_is); (case l13 => k_is); (case c13 => k_is); (case k13 => k_is)
    (case a14 => k_is); (case l14 => k_is); (case c14 => k_is); (case k14 => k_is)
    (case a15 => k_is); (case l15 => k_is); (case c15 => k_is); (case k15 => k_is)
    (case a16 => k_is); (case l16 => k_is); (case c16 => k_is); (case k16 => k_is)
    (case a17 => k_is); (case l17 => k_is); (case c17 => k_is); (case k17 => k_is)
    (case a18 => k_is); (case l18 => k_is); (case c18 => k_is); (case k18 => k_is)
    (case a19 => k_is); (case l19 => k_is); (case c19 => k_is); (case k19 => k_is)
    (case a20 => k_is); (case l20 => k_is); (case c20 => k_is); (case k20 => k_is)
    (case a21 => k_is); (case l21 => k_is); (case c21 => k_is); (case k21 => k_is)
    (case z_abs => k_is)
    (case z_all => k_is)
    (case z_bool => k_is)
    (case z_int => k_is)
    (case z_isinstance => k_is)
    (case z_len => k_is)
    (case z_list => k_is)
    (case z_max => k_is)
    (case z_min => k_is)
    (case z_range => k_is)
    (case z_repr => k_is)
    (case z_str => k_is)
    (case z_sum => k_is)
    (case z_tuple => k_is)
    (case y_VARIABLES => k_is)
    (case y_NODES => k_is)
    (case y_DEPTH => k_is)
    (case y_CAPITALS => k_is)
    (case y_SIGNS => k_is)
    (case y_LONGEST => k_is)
    (case y_MOST_PARTS => k_is)
    (case y_ARROW => k_is)
