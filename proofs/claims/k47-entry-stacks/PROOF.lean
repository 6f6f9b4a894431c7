import PyProof.Rows.All
import Wide.All
import OpenK.AllK
import Wide.FinOn
import HandS.ForMost
import HandS.ForExc
import HandS.Flow
import HandS.TupAny
import HandS.Codes
import HandS.TupMul
import HandS.Walk
import HandS.Zip
import HandS.Property
import HandS.Defaults
import HandS.CallSlots
import HandS.MakeKwOnly
import HandS.Ends
import HandS.HeadHook2
import HandS.HeadEnd
import HandS.Style
import HandS.Text
import HandS.IsInst
import HandS.Deep
import HandS.RaiseMore
import PyProof.FString5
import PyProof.NeKinds
import PyProof.Rows.ReprR
import HandS.More
import PyProof.InstEq
import HandS.SetFor
import HandS.Star
import HandS.HeadHook3
import PyProof.ReprLen
import PyProof.P3Eq
import HandS.FStr
import HandS.Conv
import OpenK.KMeth
import OpenK.KOps
import HandS.ExcInit
import HandS.ExcField
import HandS.ExcIs
import KE.KExcIs
import KE.KExcInit
import HandS.Head0
import HandS.Head1
import HandS.Head2
import PySem.Challenge.RW_exitstacks_k47_entry_stacks
set_option Elab.async false
set_option linter.all false
set_option maxRecDepth 100000
/-! EvBase: values W, heaps, results; how they stand to HandS's values and abstract heaps; the lifting of semantic functions to readings. -/
namespace L2
open PySem
theorem PE.imp {X : Cx} {e : PySem.Expr} {t t' : TE} (h : PE X e t) (i : ∀ σ H Q, t' σ H Q → t σ H Q) : PE X e t' := ⟨fun pins s σ H Q I q => h.run pins s σ H Q I (i σ H Q q)⟩
theorem PA.imp {X : Cx} {e : List PySem.Expr} {t t' : TA} (h : PA X e t) (i : ∀ σ H Q, t' σ H Q → t σ H Q) : PA X e t' := ⟨fun pos pins s σ H Q I q => h.run pos pins s σ H Q I (i σ H Q q)⟩
theorem PT.imp {X : Cx} {e : PySem.Expr} {t t' : TT} (h : PT X e t) (i : ∀ σ H Q, t' σ H Q → t σ H Q) : PT X e t' := ⟨fun pins s σ H Q I q => h.run pins s σ H Q I (i σ H Q q)⟩
theorem PS.imp {X : Cx} {e : PySem.Stmt} {t t' : TS} (h : PS X e t) (i : ∀ D σ H, t' D σ H → t D σ H) : PS X e t' := ⟨fun pins s σ H D I q => h.run pins s σ H D I (i D σ H q)⟩
theorem PSs.imp {X : Cx} {e : List PySem.Stmt} {t t' : TS} (h : PSs X e t) (i : ∀ D σ H, t' D σ H → t D σ H) : PSs X e t' := ⟨fun pins s σ H D I q => h.run pins s σ H D I (i D σ H q)⟩
theorem PW.imp {X : Cx} {e : PySem.Expr} {t t' : TT} (h : PW X e t) (i : ∀ σ H Q, t' σ H Q → t σ H Q) : PW X e t' := ⟨fun wh pins s σ H Q I q => h.run wh pins s σ H Q I (i σ H Q q)⟩
end L2
namespace Ev
open PySem L2

/-- a value as the mathematics sees it: tuples (and lists that never change) by what they hold, other objects by their number -/
inductive W where
  | non | bl (b : Bool) | int (i : Int) | str (s : Str) | tup (xs : List W) | fl (xs : List W) | ref (n : Nat) | gl (a : Addr) | ty (t : String)

/-- an object of the mathematics' heap; attributes and classes by numbers -/
inductive Ob where
  | lst (xs : List W)
  | dct (kvs : List (Key × W))
  | ins (c : Nat) (fs : List (Nat × W))
  /-- an exception's own fields -/
  | xdt (fs : List (Nat × W))
  /-- a caught exception: its class, where its fields stand -/
  | exc (c : Nat) (m : Option Nat)

structure Heap where
  nx : Nat
  get : Nat → Option Ob
namespace Heap
def put (h : Heap) (n : Nat) (o : Ob) : Heap := ⟨h.nx, fun m => if m = n then some o else h.get m⟩
def new (h : Heap) (o : Ob) : Heap := ⟨h.nx + 1, fun m => if m = h.nx then some o else h.get m⟩
@[simp] theorem put_nx (h : Heap) (n : Nat) (o : Ob) : (h.put n o).nx = h.nx := rfl
@[simp] theorem new_nx (h : Heap) (o : Ob) : (h.new o).nx = h.nx + 1 := rfl
theorem put_get (h : Heap) (n m : Nat) (o : Ob) : (h.put n o).get m = if m = n then some o else h.get m := rfl
theorem new_get (h : Heap) (m : Nat) (o : Ob) : (h.new o).get m = if m = h.nx then some o else h.get m := rfl
@[simp] theorem put_same (h : Heap) (n : Nat) (o : Ob) : (h.put n o).get n = some o := by simp [put_get]
@[simp] theorem new_same (h : Heap) (o : Ob) : (h.new o).get h.nx = some o := by simp [new_get]
theorem put_ne {h : Heap} {n m : Nat} {o : Ob} (e : m ≠ n) : (h.put n o).get m = h.get m := by simp [put_get, e]
theorem new_ne {h : Heap} {m : Nat} {o : Ob} (e : m ≠ h.nx) : (h.new o).get m = h.get m := by simp [new_get, e]
end Heap

/-- how an expression ends: a value; an exception (its class, its fields); or not at all (no rule) -/
inductive R where
  | ok (w : W) (h : Heap)
  | exc (c : Nat) (fs : List (Nat × W)) (h : Heap)
  | bad
def R.bind (r : R) (k : W → Heap → R) : R := match r with
  | .ok w h => k w h
  | .exc c fs h => .exc c fs h
  | .bad => .bad
@[simp] theorem R.bind_ok (w : W) (h : Heap) (k : W → Heap → R) : (R.ok w h).bind k = k w h := rfl
@[simp] theorem R.bind_exc (c : Nat) (fs : List (Nat × W)) (h : Heap) (k : W → Heap → R) : (R.exc c fs h).bind k = .exc c fs h := rfl
@[simp] theorem R.bind_bad (k : W → Heap → R) : R.bad.bind k = .bad := rfl
theorem R.bind_assoc (r : R) (k k' : W → Heap → R) : (r.bind k).bind k' = r.bind fun w h => (k w h).bind k' := by cases r <;> rfl

/-- how a list of expressions ends -/
inductive Rs where
  | ok (ws : List W) (h : Heap)
  | exc (c : Nat) (fs : List (Nat × W)) (h : Heap)
  | bad
def Rs.bind (r : Rs) (k : List W → Heap → R) : R := match r with
  | .ok w h => k w h
  | .exc c fs h => .exc c fs h
  | .bad => .bad
@[simp] theorem Rs.bind_ok (w : List W) (h : Heap) (k : List W → Heap → R) : (Rs.ok w h).bind k = k w h := rfl
@[simp] theorem Rs.bind_exc (c : Nat) (fs : List (Nat × W)) (h : Heap) (k : List W → Heap → R) : (Rs.exc c fs h).bind k = .exc c fs h := rfl
@[simp] theorem Rs.bind_bad (k : List W → Heap → R) : Rs.bad.bind k = .bad := rfl

/-- a test's end -/
inductive Rb where
  | ok (b : Bool) (h : Heap)
  | exc (c : Nat) (fs : List (Nat × W)) (h : Heap)
  | bad

abbrev Ls := List (Option W)
abbrev SE := Ls → Heap → R
abbrev SEs := Ls → Heap → Rs
abbrev SB := Ls → Heap → Rb

/-- how a statement ends -/
inductive SR where
  | nx (ls : Ls) (h : Heap)
  | rt (w : W) (h : Heap)
  | bk (ls : Ls) (h : Heap)
  | ct (ls : Ls) (h : Heap)
  | exc (c : Nat) (fs : List (Nat × W)) (ls : Ls) (h : Heap)
  | bad
abbrev SS := Ls → Heap → SR

/-- names: the classes' places, the attributes' names -/
structure Nm where
  ca : Nat → Addr
  an : Nat → Str
  inj : ∀ i j, an i = an j → i = j
/-- names by a table -/
def anOf (tab : List Str) (i : Nat) : Str := match tab[i]? with
  | some s => s
  | none => ⟨#[1114112 + i]⟩
theorem anOf_inj {tab : List Str} (h1 : tab.Nodup) (h2 : (tab.all fun s => s.cps.all fun c => decide (c < 1114112)) = true) (i j : Nat) (e : anOf tab i = anOf tab j) : i = j := by
  have lo : ∀ {k : Nat} {s : Str} {m : Nat}, tab[k]? = some s → s ≠ ⟨#[1114112 + m]⟩ := by
    intro k s m hk q
    have hs := List.all_eq_true.mp h2 s (List.mem_of_getElem? hk)
    rw [q] at hs
    simp at hs
    omega
  unfold anOf at e
  cases hi : tab[i]? with
  | some s =>
    cases hj : tab[j]? with
    | some t =>
      rw [hi, hj] at e
      simp only at e
      subst e
      obtain ⟨l1, e1⟩ := List.getElem?_eq_some_iff.mp hi
      obtain ⟨l2, e2⟩ := List.getElem?_eq_some_iff.mp hj
      exact (List.getElem_inj h1).mp (e1.trans e2.symm)
    | none => rw [hi, hj] at e; exact (lo hi e).elim
  | none =>
    cases hj : tab[j]? with
    | some t => rw [hi, hj] at e; exact (lo hj e.symm).elim
    | none =>
      rw [hi, hj] at e
      simp at e
      omega

/-- a list that is never written: locked, or of the module -/
def SqF (K : PySem.W.Frag) (H : Hp) (a : Addr) (xs : List V) : Prop :=
  (∃ o, H a = some (.frz o (.lst xs))) ∨
    ∃ (o : Obj) (its : Array Value) (n : Nat), K.lookup a = some o ∧ o.cls = .type "list" ∧ o.dict = none ∧ o.data = .seq its n ∧ its.size ≤ sizeLine ∧ Vals xs its.toList
theorem SqF.sq {K : PySem.W.Frag} {H : Hp} {a : Addr} {xs : List V} (h : SqF K H a xs) : SqL K H a xs := h.elim (fun ⟨o, h⟩ => .inl (.inr ⟨o, h⟩)) .inr
mutual
/-- w is the value v, the heap's objects standing at ρ -/
inductive VR (K : PySem.W.Frag) (ρ : List Addr) (H : Hp) : W → V → Prop
  | non : VR K ρ H .non .non
  | bl (b : Bool) : VR K ρ H (.bl b) (.bl b)
  | int (i : Int) : VR K ρ H (.int i) (.int i)
  | str (s : Str) : VR K ρ H (.str s) (.str s)
  | tup {xs : List W} {ys : List V} {a : Addr} : SqT K H a ys → VRs K ρ H xs ys → VR K ρ H (.tup xs) (.ref a)
  | fl {xs : List W} {ys : List V} {a : Addr} : SqF K H a ys → VRs K ρ H xs ys → VR K ρ H (.fl xs) (.ref a)
  | ref {n : Nat} {a : Addr} : ρ[n]? = some a → VR K ρ H (.ref n) (.ref a)
  | gl (a : Addr) : VR K ρ H (.gl a) (.ref a)
  | ty (t : String) : VR K ρ H (.ty t) (.ty t)
inductive VRs (K : PySem.W.Frag) (ρ : List Addr) (H : Hp) : List W → List V → Prop
  | nil : VRs K ρ H [] []
  | cons {x : W} {y : V} {xs : List W} {ys : List V} : VR K ρ H x y → VRs K ρ H xs ys → VRs K ρ H (x :: xs) (y :: ys)
end

/-- tuples and locked things stay -/
structure HE (H H' : Hp) : Prop where
  tup : ∀ a xs, Rd H a (.tup xs) → Rd H' a (.tup xs)
  frz : ∀ a o xs, H a = some (.frz o (.lst xs)) → H' a = some (.frz o (.lst xs))
theorem HE.refl (H : Hp) : HE H H := ⟨fun _ _ h => h, fun _ _ _ h => h⟩
theorem HE.trans {H H1 H2 : Hp} (a : HE H H1) (b : HE H1 H2) : HE H H2 := ⟨fun _ _ h => b.tup _ _ (a.tup _ _ h), fun _ _ _ h => b.frz _ _ _ (a.frz _ _ _ h)⟩
/-- a new object -/
theorem HE.new {H : Hp} {p : Addr} {o : HO} (h : H p = none) : HE H (upd H p o) where
  tup := fun a xs q => by
    have ne : a ≠ p := by
      rintro rfl
      rcases q with q | ⟨_, q⟩ <;> (rw [h] at q; cases q)
    rcases q with q | ⟨u, q⟩
    · exact .inl (by rw [upd_ne ne]; exact q)
    · exact .inr ⟨u, by rw [upd_ne ne]; exact q⟩
  frz := fun a ob xs q => by rw [upd_ne (ne_of_none q h)]; exact q
/-- a changed object that is no tuple and not locked -/
theorem HE.upd {H : Hp} {p : Addr} {o u : HO} (h : H p = some u) (h1 : ∀ xs, u ≠ .tup xs) (h2 : ∀ ob v, u ≠ .frz ob v) : HE H (upd H p o) where
  tup := fun a xs q => by
    have ne : a ≠ p := by
      rintro rfl
      rcases q with q | ⟨ob, q⟩
      · rw [h] at q; cases q; exact h1 _ rfl
      · rw [h] at q; cases q; exact h2 _ _ rfl
    rcases q with q | ⟨u, q⟩
    · exact .inl (by rw [upd_ne ne]; exact q)
    · exact .inr ⟨u, by rw [upd_ne ne]; exact q⟩
  frz := fun a ob xs q => by
    have ne : a ≠ p := by
      rintro rfl
      rw [h] at q; cases q; exact h2 _ _ rfl
    rw [upd_ne ne]; exact q

theorem pre_get {ρ ρ' : List Addr} {n : Nat} {a : Addr} (p : ρ <+: ρ') (h : ρ[n]? = some a) : ρ'[n]? = some a := by
  obtain ⟨t, rfl⟩ := p
  rw [List.getElem?_append_left (List.getElem?_eq_some_iff.mp h).1]
  exact h
section
variable {K : PySem.W.Frag} {ρ ρ' : List Addr} {H H' : Hp}
theorem SqT.he {a : Addr} {ys : List V} (e : HE H H') (h : SqT K H a ys) : SqT K H' a ys := h.elim (fun h => .inl (e.tup _ _ h)) .inr
theorem SqF.he {a : Addr} {ys : List V} (e : HE H H') (h : SqF K H a ys) : SqF K H' a ys := h.elim (fun ⟨o, h⟩ => .inl ⟨o, e.frz _ _ _ h⟩) .inr
mutual
theorem VR.mono (p : ρ <+: ρ') (e : HE H H') : ∀ {w : W} {v : V}, VR K ρ H w v → VR K ρ' H' w v
  | _, _, .non => .non
  | _, _, .bl b => .bl b
  | _, _, .int i => .int i
  | _, _, .str s => .str s
  | _, _, .tup q r => .tup (SqT.he e q) (VRs.mono p e r)
  | _, _, .fl q r => .fl (SqF.he e q) (VRs.mono p e r)
  | _, _, .ref q => .ref (pre_get p q)
  | _, _, .gl a => .gl a
  | _, _, .ty t => .ty t
theorem VRs.mono (p : ρ <+: ρ') (e : HE H H') : ∀ {ws : List W} {vs : List V}, VRs K ρ H ws vs → VRs K ρ' H' ws vs
  | _, _, .nil => .nil
  | _, _, .cons q r => .cons (VR.mono p e q) (VRs.mono p e r)
end
theorem VRs.length : ∀ {ws : List W} {vs : List V}, VRs K ρ H ws vs → ws.length = vs.length
  | _, _, .nil => rfl
  | _, _, .cons _ r => by simp [VRs.length r]
theorem VRs.get : ∀ {ws : List W} {vs : List V} {i : Nat} {w : W}, VRs K ρ H ws vs → ws[i]? = some w → ∃ v, vs[i]? = some v ∧ VR K ρ H w v
  | _, _, _, _, .nil, e => by simp at e
  | _, _, 0, _, .cons q _, e => by simp at e; subst e; exact ⟨_, rfl, q⟩
  | _, _, i + 1, w, .cons _ r, e => by
    obtain ⟨v, h1, h2⟩ := VRs.get (i := i) (w := w) r (by simpa using e)
    exact ⟨v, by simpa using h1, h2⟩
theorem VRs.get' : ∀ {ws : List W} {vs : List V} {i : Nat} {v : V}, VRs K ρ H ws vs → vs[i]? = some v → ∃ w, ws[i]? = some w ∧ VR K ρ H w v
  | _, _, _, _, .nil, e => by simp at e
  | _, _, 0, _, .cons q _, e => by simp at e; subst e; exact ⟨_, rfl, q⟩
  | _, _, i + 1, w, .cons _ r, e => by
    obtain ⟨v, h1, h2⟩ := VRs.get' (i := i) (v := w) r (by simpa using e)
    exact ⟨v, by simpa using h1, h2⟩
theorem VRs.append : ∀ {ws ws' : List W} {vs vs' : List V}, VRs K ρ H ws vs → VRs K ρ H ws' vs' → VRs K ρ H (ws ++ ws') (vs ++ vs')
  | _, _, _, _, .nil, r => r
  | _, _, _, _, .cons q r, r' => .cons q (VRs.append r r')
theorem VRs.set {w : W} {v : V} (q : VR K ρ H w v) : ∀ {ws : List W} {vs : List V} (i : Nat), VRs K ρ H ws vs → VRs K ρ H (ws.set i w) (vs.set i v)
  | _, _, _, .nil => .nil
  | _, _, 0, .cons _ r => .cons q r
  | _, _, i + 1, .cons p r => .cons p (VRs.set q i r)
theorem VRs.take : ∀ {ws : List W} {vs : List V} (n : Nat), VRs K ρ H ws vs → VRs K ρ H (ws.take n) (vs.take n)
  | _, _, 0, _ => .nil
  | _, _, _ + 1, .nil => .nil
  | _, _, n + 1, .cons q r => .cons q (VRs.take n r)
theorem VRs.drop : ∀ {ws : List W} {vs : List V} (n : Nat), VRs K ρ H ws vs → VRs K ρ H (ws.drop n) (vs.drop n)
  | _, _, 0, r => r
  | _, _, _ + 1, .nil => .nil
  | _, _, n + 1, .cons _ r => VRs.drop n r
theorem VRs.reverse {ws : List W} {vs : List V} (r : VRs K ρ H ws vs) : VRs K ρ H ws.reverse vs.reverse := by
  induction ws generalizing vs with
  | nil => cases r; exact .nil
  | cons x xs ih => cases r with | cons q r => simp only [List.reverse_cons]; exact VRs.append (ih r) (.cons q .nil)
end

/-- a caught exception at a, as HandS tracks it -/
def xcO (a : Addr) (cls : Value) (d : Option Addr) : HO := .ext fun h => ∃ oe vs, h.get? a = some oe ∧ oe.cls = cls ∧ oe.dict = d ∧ oe.data = .fields vs
/-- an object of the heap and what HandS tracks at its place -/
inductive OR (K : PySem.W.Frag) (N : Nm) (ρ : List Addr) (H : Hp) (a : Addr) : Ob → HO → Prop
  | lst {xs : List W} {ys : List V} : VRs K ρ H xs ys → OR K N ρ H a (.lst xs) (.lst ys)
  | dct {kvs : List (Key × W)} {kvs' : List (Key × V)} : kvs.map (·.1) = kvs'.map (·.1) → VRs K ρ H (kvs.map (·.2)) (kvs'.map (·.2)) → OR K N ρ H a (.dct kvs) (.dK kvs')
  | ins {c : Nat} {dx : Addr} {fs : List (Nat × W)} {fs' : List (Str × V)} : fs'.map (·.1) = fs.map (fun f => N.an f.1) → VRs K ρ H (fs.map (·.2)) (fs'.map (·.2)) → OR K N ρ H a (.ins c fs) (.ins (N.ca c) dx fs')
  | xdt {fs : List (Nat × W)} {fs' : List (Str × V)} : fs'.map (·.1) = fs.map (fun f => N.an f.1) → VRs K ρ H (fs.map (·.2)) (fs'.map (·.2)) → OR K N ρ H a (.xdt fs) (.xd fs')
  | exc0 {c : Nat} : OR K N ρ H a (.exc c none) (xcO a (.ref (N.ca c)) none)
  | exc1 {c m : Nat} {dx : Addr} : ρ[m]? = some dx → OR K N ρ H a (.exc c (some m)) (xcO a (.ref (N.ca c)) (some dx))
theorem OR.mono {K : PySem.W.Frag} {N : Nm} {ρ ρ' : List Addr} {H H' : Hp} {a : Addr} (p : ρ <+: ρ') (e : HE H H') {o : Ob} {O : HO} (h : OR K N ρ H a o O) : OR K N ρ' H' a o O := by
  cases h with
  | lst r => exact .lst (r.mono p e)
  | dct k r => exact .dct k (r.mono p e)
  | ins k r => exact .ins k (r.mono p e)
  | xdt k r => exact .xdt k (r.mono p e)
  | exc0 => exact .exc0
  | exc1 q => exact .exc1 (pre_get p q)

/-- the heap h stands in H, its objects at ρ -/
structure HR (K : PySem.W.Frag) (N : Nm) (ρ : List Addr) (h : Heap) (H : Hp) : Prop where
  len : ρ.length = h.nx
  nd : ρ.Nodup
  tr : ∀ a ∈ ρ, ∃ O, H a = some O
  obj : ∀ n o, h.get n = some o → ∃ a O, ρ[n]? = some a ∧ H a = some O ∧ OR K N ρ H a o O
/-- .. where every number below the next has an object -/
theorem HR.at {K : PySem.W.Frag} {N : Nm} {ρ : List Addr} {h : Heap} {H : Hp} (r : HR K N ρ h H) {n : Nat} {o : Ob} {a : Addr} (e : h.get n = some o) (q : ρ[n]? = some a) : ∃ O, H a = some O ∧ OR K N ρ H a o O := by
  obtain ⟨a', O, h1, h2, h3⟩ := r.obj n o e
  rw [q] at h1; cases h1
  exact ⟨O, h2, h3⟩
section
variable {K : PySem.W.Frag} {N : Nm} {ρ : List Addr} {h : Heap} {H : Hp}
/-- only what the heap does not hold has changed -/
theorem HR.he {H' : Hp} (r : HR K N ρ h H) (e : HE H H') (k : ∀ a ∈ ρ, H' a = H a) : HR K N ρ h H' :=
  ⟨r.len, r.nd, fun a m => by rw [k a m]; exact r.tr a m, fun n o q => by
    obtain ⟨a, O, h1, h2, h3⟩ := r.obj n o q
    exact ⟨a, O, h1, (k a (List.mem_of_getElem? h1)).trans h2, h3.mono List.prefix_rfl e⟩⟩
theorem HR.fresh {p : Addr} (r : HR K N ρ h H) (hp : H p = none) : ∀ a ∈ ρ, a ≠ p := fun a m e => by
  obtain ⟨O, q⟩ := r.tr a m
  rw [e, hp] at q
  cases q
/-- a new thing that is none of the heap's -/
theorem HR.other {p : Addr} {O : HO} (r : HR K N ρ h H) (hp : H p = none) : HR K N ρ h (upd H p O) :=
  r.he (HE.new hp) fun a m => upd_ne (r.fresh hp a m)
/-- a new object of the heap -/
theorem HR.new {p : Addr} {o : Ob} {O : HO} (r : HR K N ρ h H) (hp : H p = none) (ho : OR K N (ρ ++ [p]) (upd H p O) p o O) : HR K N (ρ ++ [p]) (h.new o) (upd H p O) where
  len := by simp [r.len]
  nd := by
    rw [List.nodup_append]
    refine ⟨r.nd, by simp, fun a ha b hb => ?_⟩
    simp at hb; subst hb
    exact r.fresh hp a ha
  tr := fun a m => by
    rcases List.mem_append.mp m with m | m
    · rw [upd_ne (r.fresh hp a m)]; exact r.tr a m
    · simp at m; subst m; exact ⟨O, upd_same⟩
  obj := fun n u q => by
    rw [Heap.new_get] at q
    by_cases e : n = h.nx
    · subst e
      rw [if_pos rfl] at q; cases q
      exact ⟨p, O, by rw [← r.len]; simp, upd_same, ho⟩
    · rw [if_neg e] at q
      obtain ⟨a, O', h1, h2, h3⟩ := r.obj n u q
      exact ⟨a, O', pre_get (List.prefix_append _ _) h1, (upd_ne (ne_of_none h2 hp)).trans h2, h3.mono (List.prefix_append _ _) (HE.new hp)⟩
/-- a thing beside the heap becomes its newest object -/
theorem HR.adopt {p : Addr} {o : Ob} {O : HO} (r : HR K N ρ h H) (hp : p ∉ ρ) (he : HE H (upd H p O)) (ho : OR K N (ρ ++ [p]) (upd H p O) p o O) : HR K N (ρ ++ [p]) (h.new o) (upd H p O) where
  len := by simp [r.len]
  nd := by
    rw [List.nodup_append]
    refine ⟨r.nd, by simp, fun a ha b hb => ?_⟩
    simp at hb; subst hb
    rintro rfl
    exact hp ha
  tr := fun a m => by
    by_cases z : a = p
    · subst z; exact ⟨O, upd_same⟩
    · rw [upd_ne z]
      rcases List.mem_append.mp m with m | m
      · exact r.tr a m
      · simp at m; exact (z m).elim
  obj := fun n u q => by
    rw [Heap.new_get] at q
    by_cases e : n = h.nx
    · subst e
      rw [if_pos rfl] at q; cases q
      exact ⟨p, O, by rw [← r.len]; simp, upd_same, ho⟩
    · rw [if_neg e] at q
      obtain ⟨a, O', h1, h2, h3⟩ := r.obj n u q
      have ne : a ≠ p := fun z => hp (by rw [← z]; exact List.mem_of_getElem? h1)
      exact ⟨a, O', pre_get (List.prefix_append _ _) h1, (upd_ne ne).trans h2, h3.mono (List.prefix_append _ _) he⟩
theorem HR.at_new (r : HR K N ρ h H) (p : Addr) : (ρ ++ [p])[h.nx]? = some p := by rw [← r.len]; simp
/-- an object changed -/
theorem HR.put {n : Nat} {a : Addr} {o' : Ob} {O O' : HO} (r : HR K N ρ h H) (q : ρ[n]? = some a) (e : H a = some O) (h1 : ∀ xs, O ≠ .tup xs) (h2 : ∀ ob v, O ≠ .frz ob v) (ho : OR K N ρ (upd H a O') a o' O') :
    HR K N ρ (h.put n o') (upd H a O') where
  len := r.len
  nd := r.nd
  tr := fun b m => by
    by_cases z : b = a
    · subst z; exact ⟨O', upd_same⟩
    · rw [upd_ne z]; exact r.tr b m
  obj := fun m u z => by
    rw [Heap.put_get] at z
    by_cases em : m = n
    · subst em
      rw [if_pos rfl] at z; cases z
      exact ⟨a, O', q, upd_same, ho⟩
    · rw [if_neg em] at z
      obtain ⟨b, U, g1, g2, g3⟩ := r.obj m u z
      have ne : b ≠ a := by
        rintro rfl
        obtain ⟨l1, e1⟩ := List.getElem?_eq_some_iff.mp g1
        obtain ⟨l2, e2⟩ := List.getElem?_eq_some_iff.mp q
        exact em ((List.getElem_inj r.nd).mp (e1.trans e2.symm))
      exact ⟨b, U, g1, (upd_ne ne).trans g2, g3.mono List.prefix_rfl (HE.upd e h1 h2)⟩
end

/-- the locals -/
structure LR (K : PySem.W.Frag) (ρ : List Addr) (H : Hp) (ls : Ls) (σ : St) : Prop where
  len : ls.length = σ.length
  get : ∀ (i : Nat) (w : W), ls[i]? = some (some w) → ∃ v : V, σ[i]? = some (some v) ∧ VR K ρ H w v
theorem LR.mono {K : PySem.W.Frag} {ρ ρ' : List Addr} {H H' : Hp} {ls : Ls} {σ : St} (p : ρ <+: ρ') (e : HE H H') (l : LR K ρ H ls σ) : LR K ρ' H' ls σ :=
  ⟨l.len, fun i w q => by obtain ⟨v, h1, h2⟩ := l.get i w q; exact ⟨v, h1, h2.mono p e⟩⟩
theorem LR.set {K : PySem.W.Frag} {ρ : List Addr} {H : Hp} {ls : Ls} {σ : St} {w : W} {v : V} (l : LR K ρ H ls σ) (i : Nat) (q : VR K ρ H w v) : LR K ρ H (ls.set i (some w)) (σ.set i (some v)) :=
  ⟨by simp [l.len], fun j u e => by
    by_cases hj : i = j
    · subst hj
      have hl : i < ls.length := by
        by_cases z : i < ls.length
        · exact z
        · rw [List.getElem?_eq_none (by simpa using z)] at e; cases e
      rw [List.getElem?_set_self hl] at e
      cases e
      exact ⟨v, List.getElem?_set_self (by rw [← l.len]; exact hl), q⟩
    · rw [List.getElem?_set_ne hj] at e
      obtain ⟨v', h1, h2⟩ := l.get j u e
      exact ⟨v', by rw [List.getElem?_set_ne hj]; exact h1, h2⟩⟩
theorem LR.unset {K : PySem.W.Frag} {ρ : List Addr} {H : Hp} {ls : Ls} {σ : St} (l : LR K ρ H ls σ) (i : Nat) : LR K ρ H (ls.set i none) (σ.set i none) :=
  ⟨by simp [l.len], fun j u e => by
    by_cases hj : i = j
    · subst hj
      by_cases z : i < ls.length
      · rw [List.getElem?_set_self z] at e; cases e
      · rw [List.getElem?_eq_none (by simpa using z)] at e; cases e
    · rw [List.getElem?_set_ne hj] at e
      obtain ⟨v', h1, h2⟩ := l.get j u e
      exact ⟨v', by rw [List.getElem?_set_ne hj]; exact h1, h2⟩⟩

/-- an exception's own fields -/
def XR (K : PySem.W.Frag) (N : Nm) (ρ : List Addr) (H : Hp) (fs : List (Nat × W)) : Option Addr → Prop
  | none => fs = []
  | some dx => fs ≠ [] ∧ dx ∉ ρ ∧ ∃ fs' : List (Str × V), H dx = some (.xd fs') ∧ fs'.map (·.1) = fs.map (fun f => N.an f.1) ∧ VRs K ρ H (fs.map (·.2)) (fs'.map (·.2))

/-- no exception's dict -/
def NXd (O : HO) : Prop := ∀ fs, O ≠ .xd fs
/-- from (ρ, H) on: what is tracked beside the heap stays (but the dicts of exceptions in flight) -/
structure Ex (ρ ρ' : List Addr) (H H' : Hp) : Prop where
  pre : ρ <+: ρ'
  he : HE H H'
  fr : ∀ a O, H a = some O → NXd O → a ∉ ρ → H' a = some O ∧ a ∉ ρ'
theorem Ex.refl (ρ : List Addr) (H : Hp) : Ex ρ ρ H H := ⟨List.prefix_rfl, HE.refl H, fun _ _ h _ n => ⟨h, n⟩⟩
theorem Ex.trans {ρ ρ1 ρ2 : List Addr} {H H1 H2 : Hp} (a : Ex ρ ρ1 H H1) (b : Ex ρ1 ρ2 H1 H2) : Ex ρ ρ2 H H2 :=
  ⟨a.pre.trans b.pre, a.he.trans b.he, fun x O h nx n => let ⟨h1, n1⟩ := a.fr x O h nx n; b.fr x O h1 nx n1⟩
/-- a new thing beside the heap -/
theorem Ex.other {ρ : List Addr} {H : Hp} {p : Addr} {O : HO} (hn : H p = none) : Ex ρ ρ H (upd H p O) :=
  ⟨List.prefix_rfl, HE.new hn, fun a U h _ n => ⟨by rw [upd_ne (ne_of_none h hn)]; exact h, n⟩⟩
/-- a new object of the heap -/
theorem Ex.alloc {ρ : List Addr} {H : Hp} {p : Addr} {O : HO} (hn : H p = none) : Ex ρ (ρ ++ [p]) H (upd H p O) :=
  ⟨List.prefix_append _ _, HE.new hn, fun a U h _ n => ⟨by rw [upd_ne (ne_of_none h hn)]; exact h, fun m => by
    rcases List.mem_append.mp m with m | m
    · exact n m
    · simp at m; exact ne_of_none h hn m⟩⟩
/-- an object of the heap written -/
theorem Ex.put {ρ : List Addr} {H : Hp} {p : Addr} {O : HO} {n : Nat} (q : ρ[n]? = some p) (he : HE H (upd H p O)) : Ex ρ ρ H (upd H p O) :=
  ⟨List.prefix_rfl, he, fun a U h _ m => ⟨by rw [upd_ne (fun e => m (by rw [e]; exact List.mem_of_getElem? q))]; exact h, m⟩⟩
theorem Ex.adopt {ρ ρ' : List Addr} {H H' : Hp} {p : Addr} {O O' : HO} (hn : H p = none) (ex : Ex ρ ρ' (upd H p O') H') (he : HE H' (upd H' p O)) : Ex ρ (ρ' ++ [p]) H (upd H' p O) :=
  ⟨ex.pre.trans (List.prefix_append _ _), ((HE.new hn).trans ex.he).trans he, fun a U h nx n => by
    have ne : a ≠ p := ne_of_none h hn
    obtain ⟨h1, n1⟩ := ex.fr a U (by rw [upd_ne ne]; exact h) nx n
    refine ⟨by rw [upd_ne ne]; exact h1, fun m => ?_⟩
    rcases List.mem_append.mp m with m | m
    · exact n1 m
    · simp at m; exact ne m⟩
theorem VR.ex {K : PySem.W.Frag} {ρ ρ' : List Addr} {H H' : Hp} {w : W} {v : V} (e : Ex ρ ρ' H H') (r : VR K ρ H w v) : VR K ρ' H' w v := r.mono e.pre e.he
theorem VRs.ex {K : PySem.W.Frag} {ρ ρ' : List Addr} {H H' : Hp} {w : List W} {v : List V} (e : Ex ρ ρ' H H') (r : VRs K ρ H w v) : VRs K ρ' H' w v := r.mono e.pre e.he
theorem LR.ex {K : PySem.W.Frag} {ρ ρ' : List Addr} {H H' : Hp} {ls : Ls} {σ : St} (e : Ex ρ ρ' H H') (r : LR K ρ H ls σ) : LR K ρ' H' ls σ := r.mono e.pre e.he

/-- what must hold so that the outcome r leads to Q, or to E -/
def Out (K : PySem.W.Frag) (N : Nm) (ρ : List Addr) (H : Hp) (r : R) (Q : VK) (E : XK) : Prop := match r with
  | .ok w h' => ∀ ρ' H' v, Ex ρ ρ' H H' → HR K N ρ' h' H' → VR K ρ' H' w v → Q v H'
  | .exc c fs h' => ∀ ρ' H' d, Ex ρ ρ' H H' → HR K N ρ' h' H' → XR K N ρ' H' fs d → E (.ref (N.ca c)) d H'
  | .bad => False
def Outs (K : PySem.W.Frag) (N : Nm) (ρ : List Addr) (H : Hp) (r : Rs) (Q : List V → Hp → Prop) (E : XK) : Prop := match r with
  | .ok w h' => ∀ ρ' H' v, Ex ρ ρ' H H' → HR K N ρ' h' H' → VRs K ρ' H' w v → Q v H'
  | .exc c fs h' => ∀ ρ' H' d, Ex ρ ρ' H H' → HR K N ρ' h' H' → XR K N ρ' H' fs d → E (.ref (N.ca c)) d H'
  | .bad => False
def Outb (K : PySem.W.Frag) (N : Nm) (ρ : List Addr) (H : Hp) (r : Rb) (Q : Bool → Hp → Prop) (E : XK) : Prop := match r with
  | .ok b h' => ∀ ρ' H', Ex ρ ρ' H H' → HR K N ρ' h' H' → Q b H'
  | .exc c fs h' => ∀ ρ' H' d, Ex ρ ρ' H H' → HR K N ρ' h' H' → XR K N ρ' H' fs d → E (.ref (N.ca c)) d H'
  | .bad => False
def OutS (K : PySem.W.Frag) (N : Nm) (ρ : List Addr) (H : Hp) (r : SR) (D : Ends) (Wx : WX) : Prop := match r with
  | .nx ls' h' => ∀ ρ' σ' H', Ex ρ ρ' H H' → LR K ρ' H' ls' σ' → HR K N ρ' h' H' → D.nx σ' H'
  | .rt w h' => ∀ ρ' H' v, Ex ρ ρ' H H' → HR K N ρ' h' H' → VR K ρ' H' w v → D.rt v H'
  | .bk ls' h' => ∀ ρ' σ' H', Ex ρ ρ' H H' → LR K ρ' H' ls' σ' → HR K N ρ' h' H' → D.bk σ' H'
  | .ct ls' h' => ∀ ρ' σ' H', Ex ρ ρ' H H' → LR K ρ' H' ls' σ' → HR K N ρ' h' H' → D.ct σ' H'
  | .exc c fs ls' h' => ∀ ρ' σ' H' d, Ex ρ ρ' H H' → LR K ρ' H' ls' σ' → HR K N ρ' h' H' → XR K N ρ' H' fs d → Wx (.ref (N.ca c)) d σ' H'
  | .bad => False

/-- the lifting: a semantic function as a reading -/
def LE (K : PySem.W.Frag) (N : Nm) (Wx : WX) (f : SE) : TE := fun σ H Q => ∃ ρ ls h, LR K ρ H ls σ ∧ HR K N ρ h H ∧ Out K N ρ H (f ls h) Q fun c d H' => Wx c d σ H'
def LA (K : PySem.W.Frag) (N : Nm) (Wx : WX) (f : SEs) : TA := fun σ H Q => ∃ ρ ls h, LR K ρ H ls σ ∧ HR K N ρ h H ∧ Outs K N ρ H (f ls h) Q fun c d H' => Wx c d σ H'
def LT (K : PySem.W.Frag) (N : Nm) (Wx : WX) (f : SB) : TT := fun σ H Q => ∃ ρ ls h, LR K ρ H ls σ ∧ HR K N ρ h H ∧ Outb K N ρ H (f ls h) Q fun c d H' => Wx c d σ H'
def LS (K : PySem.W.Frag) (N : Nm) (Wx : WX) (s : SS) : TS := fun D σ H => ∃ ρ ls h, LR K ρ H ls σ ∧ HR K N ρ h H ∧ OutS K N ρ H (s ls h) D Wx
def LSp (K : PySem.W.Frag) (N : Nm) (F : List W → Heap → R) : Sp := fun vs H Q E => ∃ ρ ws h, VRs K ρ H ws vs ∧ HR K N ρ h H ∧ Out K N ρ H (F ws h) Q E

section
variable {K : PySem.W.Frag} {N : Nm} {ρ ρ1 : List Addr} {H H1 : Hp} {E E' : XK}
theorem Out.ex {r : R} {Q : VK} (e : Ex ρ ρ1 H H1) (h : Out K N ρ H r Q E) : Out K N ρ1 H1 r Q E := by
  cases r with
  | ok w h' => exact fun ρ' H' v e' => h ρ' H' v (e.trans e')
  | exc c fs h' => exact fun ρ' H' d e' => h ρ' H' d (e.trans e')
  | bad => exact h
theorem Outs.ex {r : Rs} {Q : List V → Hp → Prop} (e : Ex ρ ρ1 H H1) (h : Outs K N ρ H r Q E) : Outs K N ρ1 H1 r Q E := by
  cases r with
  | ok w h' => exact fun ρ' H' v e' => h ρ' H' v (e.trans e')
  | exc c fs h' => exact fun ρ' H' d e' => h ρ' H' d (e.trans e')
  | bad => exact h
theorem Outb.ex {r : Rb} {Q : Bool → Hp → Prop} (e : Ex ρ ρ1 H H1) (h : Outb K N ρ H r Q E) : Outb K N ρ1 H1 r Q E := by
  cases r with
  | ok w h' => exact fun ρ' H' e' => h ρ' H' (e.trans e')
  | exc c fs h' => exact fun ρ' H' d e' => h ρ' H' d (e.trans e')
  | bad => exact h
theorem OutS.ex {r : SR} {D : Ends} {Wx : WX} (e : Ex ρ ρ1 H H1) (h : OutS K N ρ H r D Wx) : OutS K N ρ1 H1 r D Wx := by
  cases r with
  | nx ls h' => exact fun ρ' σ' H' e' => h ρ' σ' H' (e.trans e')
  | rt w h' => exact fun ρ' H' v e' => h ρ' H' v (e.trans e')
  | bk ls h' => exact fun ρ' σ' H' e' => h ρ' σ' H' (e.trans e')
  | ct ls h' => exact fun ρ' σ' H' e' => h ρ' σ' H' (e.trans e')
  | exc c fs ls h' => exact fun ρ' σ' H' d e' => h ρ' σ' H' d (e.trans e')
  | bad => exact h
/-- a value just so -/
theorem Out.here {w : W} {v : V} {h : Heap} {Q : VK} (q : Out K N ρ H (.ok w h) Q E) (e : Ex ρ ρ1 H H1) (r : HR K N ρ1 h H1) (x : VR K ρ1 H1 w v) : Q v H1 := q ρ1 H1 v e r x
theorem Out.mono {r : R} {Q Q' : VK} (h : Out K N ρ H r Q E) (hq : ∀ v H', Q v H' → Q' v H') (he : ∀ c d H', E c d H' → E' c d H') : Out K N ρ H r Q' E' := by
  cases r with
  | ok w h' => exact fun ρ' H' v e r x => hq _ _ (h ρ' H' v e r x)
  | exc c fs h' => exact fun ρ' H' d e r x => he _ _ _ (h ρ' H' d e r x)
  | bad => exact h
/-- two in a row -/
theorem Out.bind {r : R} {k : W → Heap → R} {Q : VK} (h : Out K N ρ H (r.bind k) Q E) : Out K N ρ H r (fun v H1 => ∃ ρ1 w h1, Ex ρ ρ1 H H1 ∧ HR K N ρ1 h1 H1 ∧ VR K ρ1 H1 w v ∧ Out K N ρ1 H1 (k w h1) Q E) E := by
  cases r with
  | ok w h' => exact fun ρ' H' v e r x => ⟨ρ', w, h', e, r, x, Out.ex e h⟩
  | exc c fs h' => exact h
  | bad => exact h
theorem Outs.bind {r : Rs} {k : List W → Heap → R} {Q : VK} (h : Out K N ρ H (r.bind k) Q E) : Outs K N ρ H r (fun v H1 => ∃ ρ1 w h1, Ex ρ ρ1 H H1 ∧ HR K N ρ1 h1 H1 ∧ VRs K ρ1 H1 w v ∧ Out K N ρ1 H1 (k w h1) Q E) E := by
  cases r with
  | ok w h' => exact fun ρ' H' v e r x => ⟨ρ', w, h', e, r, x, Out.ex e h⟩
  | exc c fs h' => exact h
  | bad => exact h
end
end Ev
set_option maxRecDepth 100000
/-! EvExpr: the semantic functions of expressions, each with its rule. -/
namespace Ev
open PySem L2

/-! ### names, constants -/
def eVar (i : Nat) : SE := fun ls h => match ls[i]? with
  | some (some w) => .ok w h
  | _ => .bad
def eW (w : W) : SE := fun _ h => .ok w h
section
variable {X : Cx} {N : Nm} {Wx : WX} {pos : Pos} {j : Nat}
theorem r_var {i : Nat} {x : Str} (hN : X.N[i]? = some x) (hv : Vis X.env.scope x) (hd : (x == ("__debug__" : Str)) = false := by decide) (hcd : (x == ("__classdict__" : Str)) = false := by decide) : PE X (.Name x pos) (LE X.K N Wx (eVar i)) := by
  refine (pe_var hN hv hd hcd).imp fun σ H Q h => ?_
  obtain ⟨ρ, ls, hp, l, hr, o⟩ := h
  unfold eVar at o
  split at o
  · rename_i w e
    obtain ⟨v, h1, h2⟩ := l.get i w e
    exact ⟨v, h1, o ρ H v (Ex.refl _ _) hr h2⟩
  · exact o.elim
theorem r_const {e : PySem.Expr} {w : W} {v : V} (h : PE X e (tC v)) (r : ∀ ρ H, VR X.K ρ H w v) : PE X e (LE X.K N Wx (eW w)) :=
  h.imp fun σ H Q ⟨ρ, ls, hp, l, hr, o⟩ => o ρ H v (Ex.refl _ _) hr (r ρ H)
theorem r_int {i : Int} : PE X (.Constant (.int i) j pos) (LE X.K N Wx (eW (.int i))) := r_const pe_int fun _ _ => .int i
theorem r_bl {b : Bool} : PE X (.Constant (.bool b) j pos) (LE X.K N Wx (eW (.bl b))) := r_const pe_bl fun _ _ => .bl b
theorem r_non : PE X (.Constant .none j pos) (LE X.K N Wx (eW .non)) := r_const pe_non fun _ _ => .non
theorem r_str {x : Str} : PE X (.Constant (.str x) j pos) (LE X.K N Wx (eW (.str x))) := r_const pe_str fun _ _ => .str x
/-- a global of the module: a class, a def, a tuple -/
theorem r_glob {x : Str} {w : W} {v : V} {u : Value} (hg : Gl X x) (hm : X.mg x = some u) (rv : RelV v u) (r : ∀ ρ H, VR X.K ρ H w v) (hd : (x == ("__debug__" : Str)) = false := by decide) : PE X (.Name x pos) (LE X.K N Wx (eW w)) :=
  r_const (pe_glob hg hm rv hd) r
end

/-! ### operators by values -/
def eBin (op : W → W → Heap → R) (f g : SE) : SE := fun ls h => (f ls h).bind fun x h1 => (g ls h1).bind fun y h2 => op x y h2
def eUn (op : W → Heap → R) (f : SE) : SE := fun ls h => (f ls h).bind fun x h1 => op x h1
/-- f is done by op -/
def OpOk (X : Cx) (N : Nm) (f : Value → Value → Sem Value) (op : W → W → Heap → R) : Prop :=
  ∃ r, OpR X f r ∧ ∀ ρ h H x y v u Q E, HR X.K N ρ h H → VR X.K ρ H x v → VR X.K ρ H y u → Out X.K N ρ H (op x y h) Q E → r v u H Q
def UnOk (X : Cx) (N : Nm) (f : Value → Sem Value) (op : W → Heap → R) : Prop :=
  ∃ r, UnR X f r ∧ ∀ ρ h H x v Q E, HR X.K N ρ h H → VR X.K ρ H x v → Out X.K N ρ H (op x h) Q E → r v H Q
section
variable {X : Cx} {N : Nm} {Wx : WX} {pos : Pos} {a b c : PySem.Expr} {f g k : SE}
/-- the readings of two in a row -/
theorem two_in {K : PySem.W.Frag} {σ : St} {H : Hp} {Q : VK} {op : W → W → Heap → R} {R : V → V → Hp → Prop} (h : LE K N Wx (eBin op f g) σ H Q)
    (hR : ∀ ρ h H x y v u, HR K N ρ h H → VR K ρ H x v → VR K ρ H y u → Out K N ρ H (op x y h) Q (fun c d H' => Wx c d σ H') → R v u H) :
    LE K N Wx f σ H fun v H1 => LE K N Wx g σ H1 fun u H2 => R v u H2 := by
  obtain ⟨ρ, ls, hp, l, hr, o⟩ := h
  refine ⟨ρ, ls, hp, l, hr, (Out.bind o).mono (fun v H1 z => ?_) fun _ _ _ z => z⟩
  obtain ⟨ρ1, x, h1, e1, hr1, rx, o1⟩ := z
  refine ⟨ρ1, ls, h1, l.ex e1, hr1, (Out.bind o1).mono (fun u H2 z => ?_) fun _ _ _ z => z⟩
  obtain ⟨ρ2, y, h2, e2, hr2, ry, o2⟩ := z
  exact hR ρ2 h2 H2 x y v u hr2 (rx.ex e2) ry o2
theorem one_in {K : PySem.W.Frag} {σ : St} {H : Hp} {Q : VK} {op : W → Heap → R} {R : V → Hp → Prop} (h : LE K N Wx (eUn op f) σ H Q)
    (hR : ∀ ρ ls h H x v, LR K ρ H ls σ → HR K N ρ h H → VR K ρ H x v → Out K N ρ H (op x h) Q (fun c d H' => Wx c d σ H') → R v H) :
    LE K N Wx f σ H fun v H1 => R v H1 := by
  obtain ⟨ρ, ls, hp, l, hr, o⟩ := h
  refine ⟨ρ, ls, hp, l, hr, (Out.bind o).mono (fun v H1 z => ?_) fun _ _ _ z => z⟩
  obtain ⟨ρ1, x, h1, e1, hr1, rx, o1⟩ := z
  exact hR ρ1 ls h1 H1 x v (l.ex e1) hr1 rx o1
theorem r_bin {o : Operator} {op : W → W → Heap → R} (ho : OpOk X N (binaryOp o) op) (ha : PE X a (LE X.K N Wx f)) (hb : PE X b (LE X.K N Wx g)) : PE X (.BinOp a o b pos) (LE X.K N Wx (eBin op f g)) := by
  obtain ⟨r, h1, h2⟩ := ho
  exact (pe_op h1 ha hb).imp fun σ H Q h => two_in h fun ρ h H x y v u hr rx ry o => h2 ρ h H x y v u Q _ hr rx ry o
theorem r_cmp {o : CmpOp} {op : W → W → Heap → R} (ho : OpOk X N (compareOp o) op) (ha : PE X a (LE X.K N Wx f)) (hb : PE X b (LE X.K N Wx g)) (hm : behindInMarks o b = false) : PE X (.Compare a [o] [b] pos) (LE X.K N Wx (eBin op f g)) := by
  obtain ⟨r, h1, h2⟩ := ho
  exact (pe_cmpR h1 ha hb hm).imp fun σ H Q h => two_in h fun ρ h H x y v u hr rx ry o => h2 ρ h H x y v u Q _ hr rx ry o
theorem r_un {o : UnaryOp} {op : W → Heap → R} (ho : UnOk X N (unaryOp o) op) (ha : PE X a (LE X.K N Wx f)) : PE X (.UnaryOp o a pos) (LE X.K N Wx (eUn op f)) := by
  obtain ⟨r, h1, h2⟩ := ho
  exact (pe_un h1 ha).imp fun σ H Q h => one_in h fun ρ ls h H x v l hr rx o => h2 ρ h H x v Q _ hr rx o
/-- a op b op' c -/
def eChain (op op' : W → W → Heap → R) (f g k : SE) : SE := fun ls h => (f ls h).bind fun x h1 => (g ls h1).bind fun y h2 => (op x y h2).bind fun z h3 => match z with
  | .bl true => (k ls h3).bind fun w h4 => op' y w h4
  | .bl false => .ok (.bl false) h3
  | _ => .bad
theorem chain_in {K : PySem.W.Frag} {σ : St} {H : Hp} {Q : VK} {op op' : W → W → Heap → R} {r r' : R2} (h2 : ∀ ρ h H x y v u Q E, HR K N ρ h H → VR K ρ H x v → VR K ρ H y u → Out K N ρ H (op x y h) Q E → r v u H Q)
    (h2' : ∀ ρ h H x y v u Q E, HR K N ρ h H → VR K ρ H x v → VR K ρ H y u → Out K N ρ H (op' x y h) Q E → r' v u H Q) (h : LE K N Wx (eChain op op' f g k) σ H Q) : tChain r r' (LE K N Wx f) (LE K N Wx g) (LE K N Wx k) σ H Q := by
  obtain ⟨ρ, ls, hp, l, hr, o⟩ := h
  refine ⟨ρ, ls, hp, l, hr, (Out.bind o).mono (fun v H1 z => ?_) fun _ _ _ z => z⟩
  obtain ⟨ρ1, x, hp1, e1, hr1, rx, o1⟩ := z
  refine ⟨ρ1, ls, hp1, l.ex e1, hr1, (Out.bind o1).mono (fun u H2 z => ?_) fun _ _ _ z => z⟩
  obtain ⟨ρ2, y, hp2, e2, hr2, ry, o2⟩ := z
  refine h2 ρ2 hp2 H2 x y v u _ _ hr2 (rx.ex e2) ry ((Out.bind o2).mono (fun q H3 z => ?_) fun _ _ _ z => z)
  obtain ⟨ρ3, w, hp3, e3, hr3, rw', o3⟩ := z
  cases rw' with
  | bl c =>
    refine ⟨c, rfl, ?_⟩
    cases c with
    | true =>
      rw [if_pos rfl]
      refine ⟨ρ3, ls, hp3, ((l.ex e1).ex e2).ex e3, hr3, (Out.bind o3).mono (fun t H4 z => ?_) fun _ _ _ z => z⟩
      obtain ⟨ρ4, w4, hp4, e4, hr4, r4, o4⟩ := z
      exact h2' ρ4 hp4 H4 y w4 u t Q _ hr4 ((ry.ex e3).ex e4) r4 o4
    | false =>
      rw [if_neg Bool.false_ne_true]
      exact o3 ρ3 H3 _ (Ex.refl _ _) hr3 (.bl false)
  | non => exact o3.elim
  | int => exact o3.elim
  | str => exact o3.elim
  | tup => exact o3.elim
  | fl => exact o3.elim
  | ref => exact o3.elim
  | gl => exact o3.elim
  | ty => exact o3.elim
theorem r_chain {o o' : CmpOp} {op op' : W → W → Heap → R} (ho : OpOk X N (compareOp o) op) (ho' : OpOk X N (compareOp o') op') (ha : PE X a (LE X.K N Wx f)) (hb : PE X b (LE X.K N Wx g)) (hc : PE X c (LE X.K N Wx k))
    (hm : lastMarks [o, o'] [b, c] = false := by with_unfolding_all rfl) : PE X (.Compare a [o, o'] [b, c] pos) (LE X.K N Wx (eChain op op' f g k)) := by
  obtain ⟨r, h1, h2⟩ := ho
  obtain ⟨r', h1', h2'⟩ := ho'
  exact (pe_chain h1 h1' ha hb hc hm).imp fun σ H Q h => chain_in h2 h2' h
end

/-! ### truth -/
def wTru (h : Heap) : W → Option Bool
  | .non => some false
  | .bl b => some b
  | .int i => some (i != 0)
  | .str s => if s.length ≤ sizeLine then some ((s.length : Int) != 0) else none
  | .tup xs => some (!xs.isEmpty)
  | .fl xs => some (!xs.isEmpty)
  | .ref n => match h.get n with
    | some (.lst xs) => some (!xs.isEmpty)
    | some (.dct kvs) => some (!kvs.isEmpty)
    | _ => none
  | _ => none
theorem emp_of {K : PySem.W.Frag} {ρ : List Addr} {H : Hp} {xs : List W} {ys : List V} (r : VRs K ρ H xs ys) : (!xs.isEmpty) = !ys.isEmpty := by cases r <;> rfl
theorem emp_keys {α β γ : Type} {kvs : List (γ × α)} {kvs' : List (γ × β)} (k : kvs.map (·.1) = kvs'.map (·.1)) : (!kvs.isEmpty) = !kvs'.isEmpty := by
  cases kvs <;> cases kvs' <;> first | rfl | (simp at k)
theorem tru_of {K : PySem.W.Frag} {N : Nm} {ρ : List Addr} {h : Heap} {H : Hp} {w : W} {v : V} {b : Bool} (hr : HR K N ρ h H) (r : VR K ρ H w v) (e : wTru h w = some b) : TruV K v H b := by
  cases r with
  | non => simp [wTru] at e; subst e; rfl
  | bl c => simp [wTru] at e; subst e; rfl
  | int i => simp only [wTru, Option.some.injEq] at e; subst e; rfl
  | str s =>
    simp only [wTru] at e
    split at e
    · rename_i q; simp only [Option.some.injEq] at e; subst e; exact ⟨q, rfl⟩
    · cases e
  | tup q r =>
    simp only [wTru, Option.some.injEq] at e
    subst e
    exact .inr (.inl ⟨_, q, emp_of r⟩)
  | fl q r =>
    simp only [wTru, Option.some.injEq] at e
    subst e
    exact .inl ⟨_, q.sq, emp_of r⟩
  | @ref n a q =>
    simp only [wTru] at e
    split at e
    · rename_i xs z
      obtain ⟨O, h2, h3⟩ := hr.at z q
      cases h3 with | lst r => cases e; exact .inl ⟨_, .inl (.inl h2), emp_of r⟩
    · rename_i kvs z
      obtain ⟨O, h2, h3⟩ := hr.at z q
      cases h3 with
      | dct k r =>
        cases e
        refine .inr (.inr ⟨_, h2, ?_⟩)
        exact emp_keys k
    · cases e
  | gl => cases e
  | ty => cases e

/-- a test by a value's truth -/
def bTru (f : SE) : SB := fun ls h => match f ls h with
  | .ok w h1 => match wTru h1 w with
    | some b => .ok b h1
    | none => .bad
  | .exc c fs h1 => .exc c fs h1
  | .bad => .bad
/-- a test by a value that is a bool -/
def bVal (f : SE) : SB := fun ls h => match f ls h with
  | .ok (.bl b) h1 => .ok b h1
  | .ok _ _ => .bad
  | .exc c fs h1 => .exc c fs h1
  | .bad => .bad
def bAnd (f g : SB) : SB := fun ls h => match f ls h with
  | .ok true h1 => g ls h1
  | r => r
def bOr (f g : SB) : SB := fun ls h => match f ls h with
  | .ok false h1 => g ls h1
  | r => r
def bNot (f : SB) : SB := fun ls h => match f ls h with
  | .ok b h1 => .ok (!b) h1
  | r => r
def eAnd (f g : SE) : SE := fun ls h => (f ls h).bind fun x h1 => match wTru h1 x with
  | some true => g ls h1
  | some false => .ok x h1
  | none => .bad
def eOr (f g : SE) : SE := fun ls h => (f ls h).bind fun x h1 => match wTru h1 x with
  | some true => .ok x h1
  | some false => g ls h1
  | none => .bad
def eNot (f : SE) : SE := eUn (fun x h => match wTru h x with
  | some b => .ok (.bl (!b)) h
  | none => .bad) f
def eIf (t : SB) (f g : SE) : SE := fun ls h => match t ls h with
  | .ok true h1 => f ls h1
  | .ok false h1 => g ls h1
  | .exc c fs h1 => .exc c fs h1
  | .bad => .bad
section
variable {X : Cx} {N : Nm} {Wx : WX} {pos : Pos} {a b c : PySem.Expr} {rest : List PySem.Expr} {f g k : SE} {s t : SB}
theorem val_in {K : PySem.W.Frag} {σ : St} {H : Hp} {Q : Bool → Hp → Prop} (h : LT K N Wx (bVal f) σ H Q) : LE K N Wx f σ H fun x H' => ∃ k, x = .bl k ∧ Q k H' := by
  obtain ⟨ρ, ls, hp, l, hr, o⟩ := h
  refine ⟨ρ, ls, hp, l, hr, ?_⟩
  unfold bVal at o
  split at o
  · rename_i b h1 e
    rw [e]
    intro ρ' H' v ex r x
    cases x
    exact ⟨b, rfl, o ρ' H' ex r⟩
  · exact o.elim
  · rename_i c fs h1 e; rw [e]; exact o
  · exact o.elim
theorem t_cmp {o : CmpOp} {op : W → W → Heap → R} (ho : OpOk X N (compareOp o) op) (ha : PE X a (LE X.K N Wx f)) (hb : PE X b (LE X.K N Wx g)) (hm : behindInMarks o b = false) : PT X (.Compare a [o] [b] pos) (LT X.K N Wx (bVal (eBin op f g))) := by
  obtain ⟨r, h1, h2⟩ := ho
  refine (pt_cmpR h1 ha hb hm).imp fun σ H Q h => ?_
  exact two_in (val_in h) fun ρ h H x y v u hr rx ry o => h2 ρ h H x y v u _ _ hr rx ry o
theorem t_val (ha : PE X a (LE X.K N Wx f)) (he : ∀ whole, isTrue a X.env whole = (do let v ← whole; standAt a.pos; holding [v] (truthy v)) := by intro _; rfl) : PT X a (LT X.K N Wx (bVal f)) :=
  (pt_val ha he).imp fun σ H Q h => val_in h
theorem tru_in {K : PySem.W.Frag} {σ : St} {H : Hp} {Q : Bool → Hp → Prop} (h : LT K N Wx (bTru f) σ H Q) : LE K N Wx f σ H fun x H' => ∃ k, TruV K x H' k ∧ Q k H' := by
  obtain ⟨ρ, ls, hp, l, hr, o⟩ := h
  refine ⟨ρ, ls, hp, l, hr, ?_⟩
  unfold bTru at o
  split at o
  · rename_i w h1 e
    rw [e]
    split at o
    · rename_i b eb
      intro ρ' H' v ex r x
      exact ⟨b, tru_of r x eb, o ρ' H' ex r⟩
    · exact o.elim
  · rename_i c fs h1 e; rw [e]; exact o
  · exact o.elim
theorem t_tru (ha : PE X a (LE X.K N Wx f)) (he : ∀ whole, isTrue a X.env whole = (do let v ← whole; standAt a.pos; holding [v] (truthy v)) := by intro _; rfl) : PT X a (LT X.K N Wx (bTru f)) :=
  (pt_truth ha he).imp fun σ H Q h => tru_in h
theorem w_and1 (ha : PT X a (LT X.K N Wx s)) : PW X (.BoolOp .And [a] pos) (LT X.K N Wx s) := pw_and1 ha
theorem w_or1 (ha : PT X a (LT X.K N Wx s)) : PW X (.BoolOp .Or [a] pos) (LT X.K N Wx s) := pw_or1 ha
theorem w_and (ha : PT X a (LT X.K N Wx s)) (hb : PW X (.BoolOp .And (b :: rest) pos) (LT X.K N Wx t)) : PW X (.BoolOp .And (a :: b :: rest) pos) (LT X.K N Wx (bAnd s t)) := by
  refine PW.imp (pw_and ha hb) fun σ H Q h => ?_
  obtain ⟨ρ, ls, hp, l, hr, o⟩ := h
  refine ⟨ρ, ls, hp, l, hr, ?_⟩
  unfold bAnd at o
  split at o
  · rename_i h1 e
    rw [e]
    intro ρ' H' ex r
    rw [if_pos rfl]
    exact ⟨ρ', ls, h1, l.ex ex, r, Outb.ex ex o⟩
  · rename_i z
    cases e : s ls hp with
    | ok b h1 =>
      cases b with
      | true => exact (z h1 e).elim
      | false =>
        rw [e] at o
        intro ρ' H' ex r
        rw [if_neg Bool.false_ne_true]
        exact o ρ' H' ex r
    | exc c fs h1 => rw [e] at o; exact o
    | bad => rw [e] at o; exact o.elim
theorem w_or (ha : PT X a (LT X.K N Wx s)) (hb : PW X (.BoolOp .Or (b :: rest) pos) (LT X.K N Wx t)) : PW X (.BoolOp .Or (a :: b :: rest) pos) (LT X.K N Wx (bOr s t)) := by
  refine PW.imp (pw_or ha hb) fun σ H Q h => ?_
  obtain ⟨ρ, ls, hp, l, hr, o⟩ := h
  refine ⟨ρ, ls, hp, l, hr, ?_⟩
  unfold bOr at o
  split at o
  · rename_i h1 e
    rw [e]
    intro ρ' H' ex r
    rw [if_neg Bool.false_ne_true]
    exact ⟨ρ', ls, h1, l.ex ex, r, Outb.ex ex o⟩
  · rename_i z
    cases e : s ls hp with
    | ok b h1 =>
      cases b with
      | false => exact (z h1 e).elim
      | true =>
        rw [e] at o
        intro ρ' H' ex r
        rw [if_pos rfl]
        exact o ρ' H' ex r
    | exc c fs h1 => rw [e] at o; exact o
    | bad => rw [e] at o; exact o.elim
theorem t_w (h : PW X a (LT X.K N Wx s)) : PT X a (LT X.K N Wx s) := h.pt
theorem t_not (ha : PT X a (LT X.K N Wx s)) : PT X (.UnaryOp .Not a pos) (LT X.K N Wx (bNot s)) := by
  refine PT.imp (pt_not ha) fun σ H Q h => ?_
  obtain ⟨ρ, ls, hp, l, hr, o⟩ := h
  refine ⟨ρ, ls, hp, l, hr, ?_⟩
  unfold bNot at o
  cases e : s ls hp with
  | ok b h1 => rw [e] at o; exact o
  | exc c fs h1 => rw [e] at o; exact o
  | bad => rw [e] at o; exact o.elim
theorem r_one {o : BoolOp} (ha : PE X a (LE X.K N Wx f)) : PE X (.BoolOp o [a] pos) (LE X.K N Wx f) := pe_one ha
theorem r_and (ha : PE X a (LE X.K N Wx f)) (hb : PE X (.BoolOp .And (b :: rest) pos) (LE X.K N Wx g)) : PE X (.BoolOp .And (a :: b :: rest) pos) (LE X.K N Wx (eAnd f g)) := by
  refine PE.imp (pe_andT ha hb) fun σ H Q h => ?_
  obtain ⟨ρ, ls, hp, l, hr, o⟩ := h
  refine ⟨ρ, ls, hp, l, hr, (Out.bind o).mono (fun v H1 z => ?_) fun _ _ _ z => z⟩
  obtain ⟨ρ1, x, h1, e1, hr1, rx, o1⟩ := z
  split at o1
  · rename_i e
    refine ⟨true, tru_of hr1 rx e, ?_⟩
    rw [if_pos rfl]
    exact ⟨ρ1, ls, h1, l.ex e1, hr1, o1⟩
  · rename_i e
    refine ⟨false, tru_of hr1 rx e, ?_⟩
    rw [if_neg Bool.false_ne_true]
    exact o1 ρ1 H1 v (Ex.refl _ _) hr1 rx
  · exact o1.elim
theorem r_or (ha : PE X a (LE X.K N Wx f)) (hb : PE X (.BoolOp .Or (b :: rest) pos) (LE X.K N Wx g)) : PE X (.BoolOp .Or (a :: b :: rest) pos) (LE X.K N Wx (eOr f g)) := by
  refine PE.imp (pe_orT ha hb) fun σ H Q h => ?_
  obtain ⟨ρ, ls, hp, l, hr, o⟩ := h
  refine ⟨ρ, ls, hp, l, hr, (Out.bind o).mono (fun v H1 z => ?_) fun _ _ _ z => z⟩
  obtain ⟨ρ1, x, h1, e1, hr1, rx, o1⟩ := z
  split at o1
  · rename_i e
    refine ⟨true, tru_of hr1 rx e, ?_⟩
    rw [if_pos rfl]
    exact o1 ρ1 H1 v (Ex.refl _ _) hr1 rx
  · rename_i e
    refine ⟨false, tru_of hr1 rx e, ?_⟩
    rw [if_neg Bool.false_ne_true]
    exact ⟨ρ1, ls, h1, l.ex e1, hr1, o1⟩
  · exact o1.elim
theorem r_not (ha : PE X a (LE X.K N Wx f)) : PE X (.UnaryOp .Not a pos) (LE X.K N Wx (eNot f)) := by
  refine PE.imp (pe_notT ha) fun σ H Q h => ?_
  refine one_in h fun ρ ls h H x v l hr rx o => ?_
  split at o
  · rename_i b e
    exact ⟨b, tru_of hr rx e, o ρ H _ (Ex.refl _ _) hr (.bl _)⟩
  · exact o.elim
theorem r_if (ht : PT X c (LT X.K N Wx t)) (ha : PE X a (LE X.K N Wx f)) (hb : PE X b (LE X.K N Wx g)) : PE X (.IfExp c a b pos) (LE X.K N Wx (eIf t f g)) := by
  refine PE.imp (pe_ifExp ht ha hb) fun σ H Q h => ?_
  obtain ⟨ρ, ls, hp, l, hr, o⟩ := h
  refine ⟨ρ, ls, hp, l, hr, ?_⟩
  unfold eIf at o
  cases e : t ls hp with
  | ok b h1 =>
    rw [e] at o
    intro ρ' H' ex r
    cases b with
    | true => rw [if_pos rfl]; exact ⟨ρ', ls, h1, l.ex ex, r, Out.ex ex o⟩
    | false => rw [if_neg Bool.false_ne_true]; exact ⟨ρ', ls, h1, l.ex ex, r, Out.ex ex o⟩
  | exc c fs h1 => rw [e] at o; exact o
  | bad => rw [e] at o; exact o.elim
end

/-! ### argument lists, displays -/
def aNil : SEs := fun _ h => .ok [] h
def aCons (f : SE) (g : SEs) : SEs := fun ls h => match f ls h with
  | .ok x h1 => match g ls h1 with
    | .ok xs h2 => .ok (x :: xs) h2
    | r => r
  | .exc c fs h1 => .exc c fs h1
  | .bad => .bad
def eTup (g : SEs) : SE := fun ls h => (g ls h).bind fun xs h1 => if xs.length ≤ sizeLine then .ok (.tup xs) h1 else .bad
def eLst (g : SEs) : SE := fun ls h => (g ls h).bind fun xs h1 => if xs.length ≤ sizeLine then .ok (.ref h1.nx) (h1.new (.lst xs)) else .bad
section
variable {X : Cx} {N : Nm} {Wx : WX} {pos : Pos} {e : PySem.Expr} {es : List PySem.Expr} {f : SE} {g : SEs}
theorem ra_nil : PA X [] (LA X.K N Wx aNil) := PA.imp pa_nil fun σ H Q ⟨ρ, ls, hp, l, hr, o⟩ => o ρ H [] (Ex.refl _ _) hr .nil
theorem ra_cons (ha : PE X e (LE X.K N Wx f)) (hr : PA X es (LA X.K N Wx g)) (hs : starEach (e :: es) X.env = (false, eval e X.env) :: starEach es X.env := by rfl) : PA X (e :: es) (LA X.K N Wx (aCons f g)) := by
  refine PA.imp (pa_cons ha hr hs) fun σ H Q h => ?_
  obtain ⟨ρ, ls, hp, l, hr, o⟩ := h
  refine ⟨ρ, ls, hp, l, hr, ?_⟩
  unfold aCons at o
  cases e1 : f ls hp with
  | ok x h1 =>
    rw [e1] at o
    simp only at o
    intro ρ' H' v ex r rx
    refine ⟨ρ', ls, h1, l.ex ex, r, ?_⟩
    cases e2 : g ls h1 with
    | ok xs h2 =>
      rw [e2] at o
      intro ρ2 H2 vs ex2 r2 rxs
      exact o ρ2 H2 _ (ex.trans ex2) r2 (.cons (rx.ex ex2) rxs)
    | exc c fs h2 =>
      rw [e2] at o
      intro ρ2 H2 d ex2 r2 rxs
      exact o ρ2 H2 d (ex.trans ex2) r2 rxs
    | bad => rw [e2] at o; exact o.elim
  | exc c fs h1 => rw [e1] at o; exact o
  | bad => rw [e1] at o; exact o.elim
end
end Ev
set_option maxRecDepth 100000
/-! EvOps: displays, operators, subscripts, slices, dicts. -/
namespace Ev
open PySem L2
section
variable {X : Cx} {N : Nm} {Wx : WX} {pos : Pos} {e a b : PySem.Expr} {es : List PySem.Expr} {f g : SE} {gs : SEs}
theorem r_tup {x1} (h : PA X es (LA X.K N Wx gs)) : PE X (.Tuple es x1 pos) (LE X.K N Wx (eTup gs)) := by
  refine PE.imp (pe_tup h) fun σ H Q h => ?_
  obtain ⟨ρ, ls, hp, l, hr, o⟩ := h
  refine ⟨ρ, ls, hp, l, hr, ?_⟩
  unfold eTup at o
  cases e1 : gs ls hp with
  | ok xs h1 =>
    rw [e1, Rs.bind_ok] at o
    intro ρ' H' vs ex r rx
    split at o
    · rename_i hz
      refine ⟨by rw [← rx.length]; exact hz, fun p hn => ?_⟩
      exact o ρ' _ _ (ex.trans (Ex.other hn)) (r.other hn) (.tup (.inl (.inl upd_same)) (rx.mono List.prefix_rfl (HE.new hn)))
    · exact o.elim
  | exc c fs h1 => rw [e1] at o; exact o
  | bad => rw [e1] at o; exact o.elim
theorem r_lst (h : PA X es (LA X.K N Wx gs)) : PE X (.List es pos) (LE X.K N Wx (eLst gs)) := by
  refine PE.imp (pe_lst h) fun σ H Q h => ?_
  obtain ⟨ρ, ls, hp, l, hr, o⟩ := h
  refine ⟨ρ, ls, hp, l, hr, ?_⟩
  unfold eLst at o
  cases e1 : gs ls hp with
  | ok xs h1 =>
    rw [e1, Rs.bind_ok] at o
    intro ρ' H' vs ex r rx
    split at o
    · rename_i hz
      refine ⟨by rw [← rx.length]; exact hz, fun p hn => ?_⟩
      have pre : ρ' <+: ρ' ++ [p] := List.prefix_append _ _
      exact o (ρ' ++ [p]) _ _ (ex.trans (Ex.alloc hn)) (r.new hn (.lst (rx.mono pre (HE.new hn)))) (.ref (r.at_new p))
    · exact o.elim
  | exc c fs h1 => rw [e1] at o; exact o
  | bad => rw [e1] at o; exact o.elim
end

/-! ### reading the heap -/
/-- the list at n -/
def lstAt (h : Heap) (n : Nat) : Option (List W) := match h.get n with
  | some (.lst xs) => some xs
  | _ => none
section
variable {K : PySem.W.Frag} {N : Nm} {ρ : List Addr} {h : Heap} {H : Hp}
theorem lst_of {n : Nat} {xs : List W} {a : Addr} (hr : HR K N ρ h H) (e : lstAt h n = some xs) (q : ρ[n]? = some a) : ∃ ys, SqL K H a ys ∧ VRs K ρ H xs ys := by
  unfold lstAt at e
  split at e
  · rename_i us z
    cases e
    obtain ⟨O, h2, h3⟩ := hr.at z q
    cases h3 with | lst r => exact ⟨_, .inl (.inl h2), r⟩
  · cases e
theorem lst_mut {n : Nat} {xs : List W} {a : Addr} (hr : HR K N ρ h H) (e : h.get n = some (.lst xs)) (q : ρ[n]? = some a) : ∃ ys, H a = some (.lst ys) ∧ VRs K ρ H xs ys := by
  obtain ⟨O, h2, h3⟩ := hr.at e q
  cases h3 with | lst r => exact ⟨_, h2, r⟩
theorem dct_of {n : Nat} {kvs : List (Key × W)} {a : Addr} (hr : HR K N ρ h H) (e : h.get n = some (.dct kvs)) (q : ρ[n]? = some a) :
    ∃ kvs' : List (Key × V), H a = some (.dK kvs') ∧ kvs.map (·.1) = kvs'.map (·.1) ∧ VRs K ρ H (kvs.map (·.2)) (kvs'.map (·.2)) := by
  obtain ⟨O, h2, h3⟩ := hr.at e q
  cases h3 with | dct k r => exact ⟨_, h2, k, r⟩
/-- a list written -/
theorem HR.setL {n : Nat} {a : Addr} {ys zs : List V} {xs : List W} (r : HR K N ρ h H) (q : ρ[n]? = some a) (e : H a = some (.lst ys)) (x : VRs K ρ H xs zs) : HR K N ρ (h.put n (.lst xs)) (upd H a (.lst zs)) ∧ HE H (upd H a (.lst zs)) := by
  have he : HE H (upd H a (.lst zs)) := HE.upd e (fun _ z => nomatch z) (fun _ _ z => nomatch z)
  exact ⟨r.put q e (fun _ z => nomatch z) (fun _ _ z => nomatch z) (.lst (x.mono List.prefix_rfl he)), he⟩
theorem HR.setD {n : Nat} {a : Addr} {ys zs : List (Key × V)} {xs : List (Key × W)} (r : HR K N ρ h H) (q : ρ[n]? = some a) (e : H a = some (.dK ys)) (k : xs.map (·.1) = zs.map (·.1)) (x : VRs K ρ H (xs.map (·.2)) (zs.map (·.2))) :
    HR K N ρ (h.put n (.dct xs)) (upd H a (.dK zs)) ∧ HE H (upd H a (.dK zs)) := by
  have he : HE H (upd H a (.dK zs)) := HE.upd e (fun _ z => nomatch z) (fun _ _ z => nomatch z)
  exact ⟨r.put q e (fun _ z => nomatch z) (fun _ _ z => nomatch z) (.dct k (x.mono List.prefix_rfl he)), he⟩
/-- a new list, a new tuple -/
theorem Out.newL {E : XK} {xs : List W} {ys : List V} {Q : VK} (hr : HR K N ρ h H) (x : VRs K ρ H xs ys) (o : Out K N ρ H (.ok (.ref h.nx) (h.new (.lst xs))) Q E) : ∀ p, H p = none → Q (.ref p) (upd H p (.lst ys)) := fun p hn => by
  have pre : ρ <+: ρ ++ [p] := List.prefix_append _ _
  exact o (ρ ++ [p]) _ _ (Ex.alloc hn) (hr.new hn (.lst (x.mono pre (HE.new hn)))) (.ref (hr.at_new p))
theorem Out.newT {E : XK} {xs : List W} {ys : List V} {Q : VK} (hr : HR K N ρ h H) (x : VRs K ρ H xs ys) (o : Out K N ρ H (.ok (.tup xs) h) Q E) : ∀ p, H p = none → Q (.ref p) (upd H p (.tup ys)) := fun p hn =>
  o ρ _ _ (Ex.other hn) (hr.other hn) (.tup (.inl (.inl upd_same)) (x.mono List.prefix_rfl (HE.new hn)))
theorem Out.val {E : XK} {w : W} {v : V} {Q : VK} (o : Out K N ρ H (.ok w h) Q E) (hr : HR K N ρ h H) (x : VR K ρ H w v) : Q v H := o ρ H v (Ex.refl _ _) hr x
end

/-! ### + - * // % ** -/
def wAdd : W → W → Heap → R
  | .int i, .int j, h => .ok (.int (i + j)) h
  | .str s, .str t, h => if s.length + t.length ≤ sizeLine then .ok (.str (s ++ t)) h else .bad
  | .tup xs, .tup ys, h => if xs.length + ys.length ≤ sizeLine then .ok (.tup (xs ++ ys)) h else .bad
  | .ref n, .ref m, h => match h.get n, h.get m with
    | some (.lst xs), some (.lst ys) => if xs.length + ys.length ≤ sizeLine then .ok (.ref h.nx) (h.new (.lst (xs ++ ys))) else .bad
    | _, _ => .bad
  | _, _, _ => .bad
def wSub : W → W → Heap → R
  | .int i, .int j, h => .ok (.int (i - j)) h
  | _, _, _ => .bad
def smallI (i : Int) : Bool := decide (-(2 ^ 64) < i) && decide (i < 2 ^ 64)
def wMul : W → W → Heap → R
  | .int i, .int j, h => if (smallI i || smallI j) = true then .ok (.int (i * j)) h else .bad
  | .ref n, .int k, h => match h.get n with
    | some (.lst xs) => if -(2 ^ 63) ≤ k ∧ k < 2 ^ 63 ∧ xs.length * k.toNat ≤ sizeLine then .ok (.ref h.nx) (h.new (.lst (List.replicate k.toNat xs).flatten)) else .bad
    | _ => .bad
  | _, _, _ => .bad
def wMod : W → W → Heap → R
  | .int i, .int j, h => if 0 < j then .ok (.int (i % j)) h else .bad
  | _, _, _ => .bad
def wFdv : W → W → Heap → R
  | .int i, .int j, h => if 0 < j ∧ j < 1073741824 then .ok (.int (i / j)) h else .bad
  | _, _, _ => .bad
def wPow : W → W → Heap → R
  | .int i, .int j, h => if 0 ≤ j ∧ j ≤ 1000000 ∧ i.natAbs < 2 ^ 64 then .ok (.int (i ^ j.toNat)) h else .bad
  | _, _, _ => .bad
def wNeg : W → Heap → R
  | .int i, h => .ok (.int (-i)) h
  | _, _ => .bad
section
variable {X : Cx} {N : Nm}
theorem ok_add : OpOk X N (binaryOp .Add) wAdd := by
  refine ⟨_, OpR.or op_add (OpR.or op_add_str (OpR.or op_catA op_cat)), fun ρ h H x y v u Q E hr rx ry o => ?_⟩
  cases rx with
  | int i => cases ry with
    | int j => exact .inl ⟨i, j, rfl, rfl, o.val hr (.int _)⟩
    | _ => exact o.elim
  | str s => cases ry with
    | str t =>
      simp only [wAdd] at o
      split at o
      · exact .inr (.inl ⟨s, t, rfl, rfl, by assumption, o.val hr (.str _)⟩)
      · exact o.elim
    | _ => exact o.elim
  | @tup xs ys a q r => cases ry with
    | @tup xs' ys' a' q' r' =>
      simp only [wAdd] at o
      split at o
      · rename_i hz
        refine .inr (.inr (.inl ⟨a, a', ys, ys', rfl, rfl, q, q', by rw [← r.length, ← r'.length]; exact hz, ?_, ?_, ?_⟩))
        · intro e; subst e
          cases r
          exact o.val hr (.tup q' r')
        · intro e1 e2; subst e2
          cases r'
          rw [List.append_nil] at o
          exact o.val hr (.tup q r)
        · intro e1 e2
          exact Out.newT hr (r.append r') o
      · exact o.elim
    | _ => exact o.elim
  | @ref n a q => cases ry with
    | @ref m b q' =>
      simp only [wAdd] at o
      split at o
      · rename_i xs ys e1 e2
        split at o
        · rename_i hz
          obtain ⟨us, g1, r1⟩ := lst_mut hr e1 q
          obtain ⟨ws, g2, r2⟩ := lst_mut hr e2 q'
          exact .inr (.inr (.inr ⟨a, b, us, ws, rfl, rfl, g1, g2, by rw [← r1.length, ← r2.length]; exact hz, Out.newL hr (r1.append r2) o⟩))
        · exact o.elim
      · exact o.elim
    | _ => exact o.elim
  | _ => exact o.elim
theorem ok_sub : OpOk X N (binaryOp .Sub) wSub := by
  refine ⟨_, op_sub, fun ρ h H x y v u Q E hr rx ry o => ?_⟩
  cases rx with
  | int i => cases ry with
    | int j => exact ⟨i, j, rfl, rfl, o.val hr (.int _)⟩
    | _ => exact o.elim
  | _ => exact o.elim
theorem rep_vrs {K : PySem.W.Frag} {ρ : List Addr} {H : Hp} {xs : List W} {ys : List V} (r : VRs K ρ H xs ys) : ∀ n, VRs K ρ H (List.replicate n xs).flatten (List.replicate n ys).flatten
  | 0 => .nil
  | n + 1 => by rw [List.replicate_succ, List.replicate_succ, List.flatten_cons, List.flatten_cons]; exact r.append (rep_vrs r n)
theorem ok_mul : OpOk X N (binaryOp .Mult) wMul := by
  refine ⟨_, OpR.or op_mul op_rep, fun ρ h H x y v u Q E hr rx ry o => ?_⟩
  cases rx with
  | int i => cases ry with
    | int j =>
      simp only [wMul] at o
      split at o
      · rename_i z
        refine .inl ⟨i, j, rfl, rfl, ?_, o.val hr (.int _)⟩
        simp only [smallI, Bool.or_eq_true, Bool.and_eq_true, decide_eq_true_eq] at z
        exact z
      · exact o.elim
    | _ => exact o.elim
  | @ref n a q => cases ry with
    | int k =>
      simp only [wMul] at o
      split at o
      · rename_i xs e1
        split at o
        · rename_i hz
          obtain ⟨us, g1, r1⟩ := lst_mut hr e1 q
          exact .inr ⟨a, k, us, rfl, rfl, g1, hz.1, hz.2.1, by rw [← r1.length]; exact hz.2.2, Out.newL hr (rep_vrs r1 _) o⟩
        · exact o.elim
      · exact o.elim
    | _ => exact o.elim
  | _ => exact o.elim
theorem ok_mod : OpOk X N (binaryOp .Mod) wMod := by
  refine ⟨_, op_mod, fun ρ h H x y v u Q E hr rx ry o => ?_⟩
  cases rx with
  | int i => cases ry with
    | int j =>
      simp only [wMod] at o
      split at o
      · exact ⟨i, j, rfl, rfl, by assumption, o.val hr (.int _)⟩
      · exact o.elim
    | _ => exact o.elim
  | _ => exact o.elim
theorem ok_fdv : OpOk X N (binaryOp .FloorDiv) wFdv := by
  refine ⟨_, op_fdiv, fun ρ h H x y v u Q E hr rx ry o => ?_⟩
  cases rx with
  | int i => cases ry with
    | int j =>
      simp only [wFdv] at o
      split at o
      · exact ⟨i, j, rfl, rfl, by assumption, o.val hr (.int _)⟩
      · exact o.elim
    | _ => exact o.elim
  | _ => exact o.elim
theorem ok_pow : OpOk X N (binaryOp .Pow) wPow := by
  refine ⟨_, op_pow, fun ρ h H x y v u Q E hr rx ry o => ?_⟩
  cases rx with
  | int i => cases ry with
    | int j =>
      simp only [wPow] at o
      split at o
      · exact ⟨i, j, rfl, rfl, by assumption, o.val hr (.int _)⟩
      · exact o.elim
    | _ => exact o.elim
  | _ => exact o.elim
theorem ok_neg : UnOk X N (unaryOp .USub) wNeg := by
  refine ⟨_, un_neg, fun ρ h H x v Q E hr rx o => ?_⟩
  cases rx with
  | int i => exact ⟨i, rfl, o.val hr (.int _)⟩
  | _ => exact o.elim
end

/-! ### < <= > >= of ints and of one-sign texts; is None -/
def wLt : W → W → Heap → R
  | .int i, .int j, h => .ok (.bl (decide (i < j))) h
  | _, _, _ => .bad
def wLe : W → W → Heap → R
  | .int i, .int j, h => .ok (.bl (decide (i ≤ j))) h
  | _, _, _ => .bad
def wGt : W → W → Heap → R
  | .int i, .int j, h => .ok (.bl (decide (j < i))) h
  | _, _, _ => .bad
def wGe : W → W → Heap → R
  | .int i, .int j, h => .ok (.bl (decide (j ≤ i))) h
  | _, _, _ => .bad
def wIsN : W → W → Heap → R
  | .non, .non, h => .ok (.bl true) h
  | _, .non, h => .ok (.bl false) h
  | _, _, _ => .bad
def wNotN : W → W → Heap → R
  | .non, .non, h => .ok (.bl false) h
  | _, .non, h => .ok (.bl true) h
  | _, _, _ => .bad
section
variable {X : Cx} {N : Nm}
theorem ok_lt : OpOk X N (compareOp .Lt) wLt := by
  refine ⟨_, op_lt, fun ρ h H x y v u Q E hr rx ry o => ?_⟩
  cases rx with
  | int i => cases ry with
    | int j => exact ⟨i, j, rfl, rfl, o.val hr (.bl _)⟩
    | _ => exact o.elim
  | _ => exact o.elim
theorem ok_le : OpOk X N (compareOp .LtE) wLe := by
  refine ⟨_, op_le, fun ρ h H x y v u Q E hr rx ry o => ?_⟩
  cases rx with
  | int i => cases ry with
    | int j => exact ⟨i, j, rfl, rfl, o.val hr (.bl _)⟩
    | _ => exact o.elim
  | _ => exact o.elim
theorem ok_gt : OpOk X N (compareOp .Gt) wGt := by
  refine ⟨_, op_gt, fun ρ h H x y v u Q E hr rx ry o => ?_⟩
  cases rx with
  | int i => cases ry with
    | int j => exact ⟨i, j, rfl, rfl, o.val hr (.bl _)⟩
    | _ => exact o.elim
  | _ => exact o.elim
theorem ok_ge : OpOk X N (compareOp .GtE) wGe := by
  refine ⟨_, op_ge, fun ρ h H x y v u Q E hr rx ry o => ?_⟩
  cases rx with
  | int i => cases ry with
    | int j => exact ⟨i, j, rfl, rfl, o.val hr (.bl _)⟩
    | _ => exact o.elim
  | _ => exact o.elim
theorem ok_isN : OpOk X N (compareOp .Is) wIsN := by
  refine ⟨_, op_isN, fun ρ h H x y v u Q E hr rx ry o => ?_⟩
  cases ry with
  | non =>
    refine ⟨rfl, ?_⟩
    cases rx <;> exact o.val hr (.bl _)
  | _ => cases rx <;> exact o.elim
theorem ok_notN : OpOk X N (compareOp .IsNot) wNotN := by
  refine ⟨_, op_notN, fun ρ h H x y v u Q E hr rx ry o => ?_⟩
  cases ry with
  | non =>
    refine ⟨rfl, ?_⟩
    cases rx <;> exact o.val hr (.bl _)
  | _ => cases rx <;> exact o.elim
end

/-! ### subscripts -/
/-- a dict's value by key -/
def dGet (kvs : List (Key × W)) (k : Key) : Option W := (kvs.find? fun kv => decide (kv.1 = k)).map (·.2)
def dPut (kvs : List (Key × W)) (k : Key) (v : W) : List (Key × W) :=
  if (kvs.any fun kv => decide (kv.1 = k)) = true then kvs.map (fun kv => if kv.1 = k then (kv.1, v) else kv) else kvs ++ [(k, v)]
def keyOf : W → Option Key
  | .int i => some (.inl i)
  | .str s => some (.inr s)
  | _ => none
def wIx : W → W → Heap → R
  | .ref n, k, h => match h.get n with
    | some (.dct kvs) => match keyOf k with
      | some k => match dGet kvs k with
        | some w => .ok w h
        | none => .bad
      | none => .bad
    | _ => match k, lstAt h n with
      | .int i, some xs => match atI xs i with
        | some w => .ok w h
        | none => .bad
      | _, _ => .bad
  | .tup xs, .int i, h => match atI xs i with
    | some w => .ok w h
    | none => .bad
  | .fl xs, .int i, h => match atI xs i with
    | some w => .ok w h
    | none => .bad
  | .str s, .int i, h => if s.length ≤ sizeLine then match atI s.cps.toList i with
    | some c => .ok (.str ⟨#[c]⟩) h
    | none => .bad
    else .bad
  | _, _, _ => .bad
section
variable {K : PySem.W.Frag} {ρ : List Addr} {H : Hp}
theorem atI_of {xs : List W} {ys : List V} {i : Int} {w : W} (r : VRs K ρ H xs ys) (e : atI xs i = some w) : ∃ v, atI ys i = some v ∧ VR K ρ H w v := by
  unfold atI at e ⊢
  rw [← r.length]
  cases q : ixN xs.length i with
  | none => rw [q] at e; cases e
  | some j => rw [q] at e; exact r.get e
theorem dGet_of : ∀ {kvs : List (Key × W)} {kvs' : List (Key × V)}, kvs.map (·.1) = kvs'.map (·.1) → VRs K ρ H (kvs.map (·.2)) (kvs'.map (·.2)) → ∀ {k : Key} {w : W}, dGet kvs k = some w → ∃ v, valV kvs' k = some v ∧ VR K ρ H w v
  | [], _, _, _, k, w, e => by cases e
  | (a, x) :: r, [], e1, _, k, w, e => by cases e1
  | (a, x) :: r, (b, y) :: r', e1, rr, k, w, e => by
    simp only [List.map_cons, List.cons.injEq] at e1
    obtain ⟨rfl, e1⟩ := e1
    cases rr with
    | cons q rr =>
      by_cases hk : a = k
      · refine ⟨y, valV_pos hk, ?_⟩
        simp only [dGet, List.find?_cons, hk, decide_true, Option.map_some, Option.some.injEq] at e
        subst e; exact q
      · obtain ⟨v, h1, h2⟩ := dGet_of e1 rr (k := k) (w := w) (by simpa [dGet, List.find?_cons, hk] using e)
        exact ⟨v, by rw [valV_neg hk]; exact h1, h2⟩
theorem dGet_none : ∀ {kvs : List (Key × W)} {kvs' : List (Key × V)}, kvs.map (·.1) = kvs'.map (·.1) → ∀ {k : Key}, dGet kvs k = none → valV kvs' k = none
  | [], [], _, k, _ => rfl
  | [], _ :: _, e1, _, _ => by cases e1
  | (a, x) :: r, [], e1, k, e => by cases e1
  | (a, x) :: r, (b, y) :: r', e1, k, e => by
    simp only [List.map_cons, List.cons.injEq] at e1
    obtain ⟨rfl, e1⟩ := e1
    by_cases hk : a = k
    · simp [dGet, List.find?_cons, hk] at e
    · rw [valV_neg hk]
      exact dGet_none e1 (k := k) (by simpa [dGet, List.find?_cons, hk] using e)
theorem key_of {w : W} {v : V} {k : Key} (r : VR K ρ H w v) (e : keyOf w = some k) : v = kV k := by
  cases r <;> simp [keyOf] at e <;> subst e <;> rfl
theorem dPut_of {kvs : List (Key × W)} {kvs' : List (Key × V)} {k : Key} {w : W} {v : V} (e : kvs.map (·.1) = kvs'.map (·.1)) (r : VRs K ρ H (kvs.map (·.2)) (kvs'.map (·.2))) (q : VR K ρ H w v) :
    (dPut kvs k w).map (·.1) = (putK kvs' k v).map (·.1) ∧ VRs K ρ H ((dPut kvs k w).map (·.2)) ((putK kvs' k v).map (·.2)) := by
  have hany : (kvs.any fun kv => decide (kv.1 = k)) = (kvs'.any fun kv => decide (kv.1 = k)) := by
    have h1 : ∀ {β : Type} (l : List (Key × β)), (l.any fun kv => decide (kv.1 = k)) = ((l.map (·.1)).any fun a => decide (a = k)) := fun l => by rw [List.any_map]; rfl
    rw [h1, h1, e]
  unfold dPut putK
  rw [hany]
  split
  · rename_i zz
    clear hany zz
    induction kvs generalizing kvs' with
    | nil => cases kvs' with
      | nil => exact ⟨rfl, .nil⟩
      | cons => cases e
    | cons p kvs ih => cases kvs' with
      | nil => cases e
      | cons p' kvs' =>
        simp only [List.map_cons, List.cons.injEq] at e
        cases r with
        | cons q1 r =>
          obtain ⟨i1, i2⟩ := ih e.2 r
          obtain ⟨e1, e2⟩ := e
          simp only [List.map_cons]
          by_cases hk : p.1 = k
          · rw [if_pos hk, if_pos (e1 ▸ hk)]
            exact ⟨by rw [i1, e1], .cons q i2⟩
          · rw [if_neg hk, if_neg (e1 ▸ hk)]
            exact ⟨by rw [i1, e1], .cons q1 i2⟩
  · simp only [List.map_append, List.map_cons, List.map_nil, e]
    exact ⟨trivial, r.append (.cons q .nil)⟩
theorem dPut_len (kvs : List (Key × W)) (k : Key) (w : W) : (dPut kvs k w).length ≤ kvs.length + 1 := by
  unfold dPut
  split <;> simp
end
section
variable {X : Cx} {N : Nm} {Wx : WX} {pos : Pos} {a b : PySem.Expr} {f g : SE}
/-- a tracked dict's subscript, by values -/
def rIxDct : R2 := fun x y H Q => ∃ p v, x = .ref p ∧ DGet H p y (some v) ∧ Q v H
theorem ix_dct (hu : X.A.units + 1 < cLine) : IxR X rIxDct := by
  intro value slice pins s σ H x y v u Q I rx ry h hs
  obtain ⟨p, z, rfl, g, q⟩ := h
  obtain rfl : v = Value.ref p := rx
  exact PyProof.Rows.tail_any (dict_typeIs I g) PySem.F.slot_dict_getitem.lookup (d_getItem hu I g ry fun w' s3 I3 rw' => ⟨z, H, I3, rw', q⟩) hs
theorem ix_in {K : PySem.W.Frag} {ρ : List Addr} {h : Heap} {H : Hp} {x y : W} {v u : V} {Q : VK} {E : XK} (hr : HR K N ρ h H) (rx : VR K ρ H x v) (ry : VR K ρ H y u) (o : Out K N ρ H (wIx x y h) Q E) : rIx K v u H Q ∨ rIxDct v u H Q := by
  cases rx with
  | @ref n a q =>
    simp only [wIx] at o
    split at o
    · rename_i kvs e
      split at o
      · rename_i k ek
        split at o
        · rename_i w ew
          obtain ⟨kvs', h1, h2, h3⟩ := dct_of hr e q
          obtain ⟨z, z1, z2⟩ := dGet_of h2 h3 ew
          right
          refine ⟨a, z, rfl, ?_, o.val hr z2⟩
          rw [key_of ry ek, ← z1]
          exact DGet.k h1
        · exact o.elim
      · exact o.elim
    · split at o
      · rename_i i xs ex
        split at o
        · rename_i w ew
          obtain ⟨ys, h1, h2⟩ := lst_of hr ex q
          obtain ⟨z, z1, z2⟩ := atI_of h2 ew
          cases ry
          exact .inl (.inl ⟨a, ys, i, z, rfl, rfl, h1, z1, o.val hr z2⟩)
        · exact o.elim
      · exact o.elim
  | tup q r =>
    cases ry with
    | int i =>
      simp only [wIx] at o
      split at o
      · rename_i w ew
        obtain ⟨z, z1, z2⟩ := atI_of r ew
        exact .inl (.inr (.inl ⟨_, _, i, z, rfl, rfl, q, z1, o.val hr z2⟩))
      · exact o.elim
    | _ => exact o.elim
  | fl q r =>
    cases ry with
    | int i =>
      simp only [wIx] at o
      split at o
      · rename_i w ew
        obtain ⟨z, z1, z2⟩ := atI_of r ew
        exact .inl (.inl ⟨_, _, i, z, rfl, rfl, q.sq, z1, o.val hr z2⟩)
      · exact o.elim
    | _ => exact o.elim
  | str s =>
    cases ry with
    | int i =>
      simp only [wIx] at o
      split at o
      · rename_i hz
        split at o
        · rename_i c ec
          exact .inl (.inr (.inr ⟨s, i, c, rfl, rfl, hz, ec, o.val hr (.str _)⟩))
        · exact o.elim
      · exact o.elim
    | _ => exact o.elim
  | _ => exact o.elim
theorem r_ix (hu : X.A.units + 1 < cLine) (ha : PE X a (LE X.K N Wx f)) (hb : PE X b (LE X.K N Wx g)) (hs : PlainIx b) : PE X (.Subscript a b pos) (LE X.K N Wx (eBin wIx f g)) :=
  PE.imp (pe_ix (ix_seq.or (ix_dct hu)) ha hb hs) fun σ H Q h => two_in h fun ρ h H x y v u hr rx ry o => ix_in hr rx ry o
end

/-! ### slices -/
def wCut (xs : List W) (lo hi : Option Int) : List W := (xs.drop (HT.sIx xs.length 0 lo)).take (HT.sIx xs.length xs.length hi - HT.sIx xs.length 0 lo)
theorem cut_of {K : PySem.W.Frag} {ρ : List Addr} {H : Hp} {xs : List W} {ys : List V} (r : VRs K ρ H xs ys) (lo hi : Option Int) : VRs K ρ H (wCut xs lo hi) (cutV ys lo hi) := by
  unfold wCut cutV
  rw [r.length]
  exact (r.drop _).take _
/-- a part of a slice -/
abbrev SO := Ls → Heap → Option (Option Int × Heap)
def oNone : SO := fun _ h => some (none, h)
def oSome (f : SE) : SO := fun ls h => match f ls h with
  | .ok (.int i) h1 => some (some i, h1)
  | _ => none
def wSl : W → Option Int → Option Int → Heap → R
  | .ref n, lo, hi, h => match lstAt h n with
    | some xs => .ok (.ref h.nx) (h.new (.lst (wCut xs lo hi)))
    | none => .bad
  | .tup xs, lo, hi, h => .ok (.tup (wCut xs lo hi)) h
  | .fl xs, lo, hi, h => .ok (.ref h.nx) (h.new (.lst (wCut xs lo hi)))
  | .str s, lo, hi, h => if s.length ≤ sizeLine then .ok (.str (cutS s lo hi)) h else .bad
  | _, _, _, _ => .bad
def eSl (f : SE) (lo hi : SO) : SE := fun ls h => (f ls h).bind fun x h1 => match lo ls h1 with
  | some (l, h2) => match hi ls h2 with
    | some (u, h3) => wSl x l u h3
    | none => .bad
  | none => .bad
def LO (K : PySem.W.Frag) (N : Nm) (f : SO) : TO := fun σ H Q => ∃ ρ ls h, LR K ρ H ls σ ∧ HR K N ρ h H ∧ match f ls h with
  | some (o, h') => ∀ ρ' H', Ex ρ ρ' H H' → HR K N ρ' h' H' → Q o H'
  | none => False
section
variable {X : Cx} {N : Nm} {Wx : WX} {pos p2 : Pos} {a b : PySem.Expr} {f g : SE} {lo hi : Option PySem.Expr} {l u : SO}
theorem PO.imp {X : Cx} {e : Option PySem.Expr} {t t' : TO} (h : PO X e t) (i : ∀ σ H Q, t' σ H Q → t σ H Q) : PO X e t' := ⟨fun pins s σ H Q I q => h.run pins s σ H Q I (i σ H Q q)⟩
theorem ro_none : PO X none (LO X.K N oNone) := PO.imp po_none fun σ H Q ⟨ρ, ls, h, l, hr, o⟩ => o ρ H (Ex.refl _ _) hr
theorem ro_some (h : PE X a (LE X.K N Wx f)) : PO X (some a) (LO X.K N (oSome f)) := PO.imp (po_some h) fun σ H Q h => by
  obtain ⟨ρ, ls, hp, l, hr, o⟩ := h
  refine ⟨ρ, ls, hp, l, hr, ?_⟩
  unfold oSome at o
  cases e : f ls hp with
  | ok w h1 =>
    rw [e] at o
    intro ρ' H' v ex r x
    cases x with
    | int i => exact ⟨i, rfl, o ρ' H' ex r⟩
    | _ => exact o.elim
  | exc c fs h1 => rw [e] at o; exact o.elim
  | bad => rw [e] at o; exact o.elim
theorem r_sl (ha : PE X a (LE X.K N Wx f)) (hl : PO X lo (LO X.K N l)) (hu : PO X hi (LO X.K N u)) : PE X (.Subscript a (.Slice lo hi none p2) pos) (LE X.K N Wx (eSl f l u)) := by
  refine PE.imp (pe_slice (SlR.or sl_list (SlR.or sl_tupA sl_str)) ha hl hu) fun σ H Q h => ?_
  obtain ⟨ρ, ls, hp, lr, hr, o⟩ := h
  refine ⟨ρ, ls, hp, lr, hr, (Out.bind o).mono (fun v H1 z => ?_) fun _ _ _ z => z⟩
  obtain ⟨ρ1, x, h1, e1, hr1, rx, o1⟩ := z
  refine ⟨ρ1, ls, h1, lr.ex e1, hr1, ?_⟩
  cases el : l ls h1 with
  | none => rw [el] at o1; exact o1.elim
  | some p =>
    obtain ⟨i, h2⟩ := p
    rw [el] at o1
    simp only at o1 ⊢
    intro ρ2 H2 e2 hr2
    refine ⟨ρ2, ls, h2, (lr.ex e1).ex e2, hr2, ?_⟩
    cases eu : u ls h2 with
    | none => rw [eu] at o1; exact o1.elim
    | some p =>
      obtain ⟨j, h3⟩ := p
      rw [eu] at o1
      simp only at o1 ⊢
      intro ρ3 H3 e3 hr3
      have rx3 := (rx.ex e2).ex e3
      have o3 := Out.ex (e2.trans e3) o1
      cases rx3 with
      | @ref n a q =>
        simp only [wSl] at o3
        split at o3
        · rename_i xs ex
          obtain ⟨ys, z1, z2⟩ := lst_of hr3 ex q
          exact .inl ⟨a, ys, rfl, z1, Out.newL hr3 (cut_of z2 i j) o3⟩
        · exact o3.elim
      | @fl xs ys a q r =>
        simp only [wSl] at o3
        exact .inl ⟨a, ys, rfl, q.sq, Out.newL hr3 (cut_of r i j) o3⟩
      | @tup xs ys a q r =>
        simp only [wSl] at o3
        refine .inr (.inl ⟨a, ys, rfl, q, ?_, ?_⟩)
        · intro whole
          have hc := cut_of r i j
          have e : cutV ys i j = ys := by
            unfold cutV
            rw [whole.1, whole.2]
            simp
          rw [e] at hc
          exact o3.val hr3 (.tup q hc)
        · intro _ p hn
          exact Out.newT hr3 (cut_of r i j) o3 p hn
      | str s =>
        simp only [wSl] at o3
        split at o3
        · exact .inr (.inr ⟨s, rfl, by assumption, o3.val hr3 (.str _)⟩)
        · exact o3.elim
      | _ => exact o3.elim
end

/-! ### dict displays -/
inductive Rp where
  | ok (ps : List (W × W)) (h : Heap)
  | exc (c : Nat) (fs : List (Nat × W)) (h : Heap)
  | bad
def ePairs : List (SE × SE) → Ls → Heap → Rp
  | [], _, h => .ok [] h
  | (f, g) :: r, ls, h => match f ls h with
    | .ok x h1 => match g ls h1 with
      | .ok y h2 => match ePairs r ls h2 with
        | .ok ps h3 => .ok ((x, y) :: ps) h3
        | e => e
      | .exc c fs h2 => .exc c fs h2
      | .bad => .bad
    | .exc c fs h1 => .exc c fs h1
    | .bad => .bad
def keysOf : List (W × W) → Option (List (Key × W))
  | [] => some []
  | (k, w) :: r => match keyOf k, keysOf r with
    | some k, some l => some ((k, w) :: l)
    | _, _ => none
def dMerge (kvs : List (Key × W)) : List (Key × W) := kvs.foldl (fun acc kv => dPut acc kv.1 kv.2) []
/-- {k: v, ..} -/
def eDct (ps : List (SE × SE)) : SE := fun ls h => match ePairs ps ls h with
  | .ok kvs h2 => match keysOf kvs with
    | some l => if l.length ≤ 15 then .ok (.ref h2.nx) (h2.new (.dct (dMerge l))) else .bad
    | none => .bad
  | .exc c fs h2 => .exc c fs h2
  | .bad => .bad
def liftPs (K : PySem.W.Frag) (N : Nm) (Wx : WX) (ps : List (SE × SE)) : List (TE × TE) := ps.map fun p => (LE K N Wx p.1, LE K N Wx p.2)
section
variable {X : Cx} {N : Nm} {Wx : WX} {pos : Pos} {k v : PySem.Expr} {ks : List (Option PySem.Expr)} {vs : List PySem.Expr} {f g : SE} {ps : List (SE × SE)}
theorem rp_nil : PPs X pos [] [] (liftPs X.K N Wx []) := pps_nil
theorem rp_cons (hk : PE X k (LE X.K N Wx f)) (hv : PE X v (LE X.K N Wx g)) (hr : PPs X pos ks vs (liftPs X.K N Wx ps)) : PPs X pos (some k :: ks) (v :: vs) (liftPs X.K N Wx ((f, g) :: ps)) := pps_cons hk hv hr
inductive PRs (K : PySem.W.Frag) (ρ : List Addr) (H : Hp) : List (W × W) → List (V × V) → Prop
  | nil : PRs K ρ H [] []
  | cons {p : W × W} {q : V × V} {ps qs} : VR K ρ H p.1 q.1 → VR K ρ H p.2 q.2 → PRs K ρ H ps qs → PRs K ρ H (p :: ps) (q :: qs)
theorem pairs_in {K : PySem.W.Frag} {σ : St} {Q : List (V × V) → Hp → Prop} {E : XK} : ∀ (ps : List (SE × SE)) {ρ : List Addr} {ls : Ls} {h : Heap} {H : Hp}, LR K ρ H ls σ → HR K N ρ h H → (E = fun c d H' => Wx c d σ H') → (match ePairs ps ls h with
    | .ok kvs h2 => ∀ ρ' H' qs, Ex ρ ρ' H H' → HR K N ρ' h2 H' → PRs K ρ' H' kvs qs → Q qs H'
    | .exc c fs h' => ∀ ρ' H' d, Ex ρ ρ' H H' → HR K N ρ' h' H' → XR K N ρ' H' fs d → E (.ref (N.ca c)) d H'
    | .bad => False) → tPairs (liftPs K N Wx ps) σ H Q
  | [], ρ, ls, h, H, l, hr, _, o => o ρ H [] (Ex.refl _ _) hr .nil
  | (f, g) :: ps, ρ, ls, h, H, l, hr, eE, o => by
    subst eE
    unfold ePairs at o
    refine ⟨ρ, ls, h, l, hr, ?_⟩
    show Out K N ρ H (f ls h) _ _
    cases e1 : f ls h with
    | ok x h1 =>
      rw [e1] at o
      simp only at o
      intro ρ1 H1 v ex1 r1 rx
      refine ⟨ρ1, ls, h1, l.ex ex1, r1, ?_⟩
      show Out K N ρ1 H1 (g ls h1) _ _
      cases e2 : g ls h1 with
      | ok y h2 =>
        rw [e2] at o
        simp only at o
        intro ρ2 H2 u ex2 r2 ry
        refine pairs_in ps ((l.ex ex1).ex ex2) r2 rfl ?_
        cases e3 : ePairs ps ls h2 with
        | ok kvs h3 =>
          rw [e3] at o
          intro ρ3 H3 qs ex3 r3 rr
          exact o ρ3 H3 _ ((ex1.trans ex2).trans ex3) r3 (.cons ((rx.ex ex2).ex ex3) (ry.ex ex3) rr)
        | exc c fs h3 => rw [e3] at o; exact fun ρ3 H3 d ex3 r3 z => o ρ3 H3 d ((ex1.trans ex2).trans ex3) r3 z
        | bad => rw [e3] at o; exact o.elim
      | exc c fs h2 => rw [e2] at o; exact fun ρ2 H2 d ex2 r2 z => o ρ2 H2 d (ex1.trans ex2) r2 z
      | bad => rw [e2] at o; exact o.elim
    | exc c fs h1 => rw [e1] at o; exact o
    | bad => rw [e1] at o; exact o.elim
theorem keys_in {K : PySem.W.Frag} {ρ : List Addr} {H : Hp} : ∀ {ps : List (W × W)} {qs : List (V × V)} {l : List (Key × W)}, PRs K ρ H ps qs → keysOf ps = some l →
    ∃ l' : List (Key × V), qs = l'.map (fun kv => (kV kv.1, kv.2)) ∧ l.map (·.1) = l'.map (·.1) ∧ VRs K ρ H (l.map (·.2)) (l'.map (·.2))
  | [], [], l, .nil, e => by simp [keysOf] at e; subst e; exact ⟨[], rfl, rfl, .nil⟩
  | (k, w) :: ps, q :: qs, l, .cons r1 r2 r, e => by
    unfold keysOf at e
    split at e
    · rename_i k' l1 e1 e2
      cases e
      obtain ⟨l', h1, h2, h3⟩ := keys_in r e2
      refine ⟨(k', q.2) :: l', ?_, by simp [h2], .cons r2 h3⟩
      rw [h1, List.map_cons, ← key_of r1 e1]
    · cases e
theorem merge_in {K : PySem.W.Frag} {ρ : List Addr} {H : Hp} : ∀ {l : List (Key × W)} {l' : List (Key × V)} {a : List (Key × W)} {a' : List (Key × V)}, l.map (·.1) = l'.map (·.1) → VRs K ρ H (l.map (·.2)) (l'.map (·.2)) →
    a.map (·.1) = a'.map (·.1) → VRs K ρ H (a.map (·.2)) (a'.map (·.2)) →
    (l.foldl (fun acc kv => dPut acc kv.1 kv.2) a).map (·.1) = (mergeK a' l').map (·.1) ∧ VRs K ρ H ((l.foldl (fun acc kv => dPut acc kv.1 kv.2) a).map (·.2)) ((mergeK a' l').map (·.2))
  | [], [], a, a', _, _, h1, h2 => ⟨h1, h2⟩
  | [], _ :: _, _, _, e, _, _, _ => by cases e
  | _ :: _, [], _, _, e, _, _, _ => by cases e
  | p :: l, p' :: l', a, a', e, r, h1, h2 => by
    simp only [List.map_cons, List.cons.injEq] at e
    cases r with
    | cons q r =>
      obtain ⟨z1, z2⟩ := dPut_of (k := p.1) h1 h2 q
      have := merge_in (a := dPut a p.1 p.2) (a' := putK a' p.1 p'.2) e.2 r z1 z2
      rw [e.1] at this
      simpa [mergeK, e.1] using this
theorem r_dct (h : PPs X pos ks vs (liftPs X.K N Wx ps)) (hall : ks.all (·.isSome) = true) (hl : ks.length = vs.length) (h0 : ks ≠ []) (h15 : ks.length ≤ 15) : PE X (.Dict ks vs pos) (LE X.K N Wx (eDct ps)) := by
  refine PE.imp (pe_disp h hall hl h0 h15) fun σ H Q h => ?_
  obtain ⟨ρ, ls, hp, l, hr, o⟩ := h
  intro p hn
  have ex0 : Ex ρ ρ H (upd H p (.dK [])) := Ex.other hn
  have hr0 : HR X.K N ρ hp (upd H p (.dK [])) := hr.other hn
  refine pairs_in ps (l.ex ex0) hr0 rfl ?_
  unfold eDct at o
  cases e1 : ePairs ps ls hp with
  | ok kvs h2 =>
    rw [e1] at o
    simp only at o
    intro ρ' H' qs ex r rr
    split at o
    · rename_i l1 g2
      split at o
      · rename_i hz
        have np : p ∉ ρ := fun m => hr.fresh hn p m rfl
        obtain ⟨z1, np'⟩ := ex.fr p _ upd_same (fun _ z => nomatch z) np
        obtain ⟨l', y1, y2, y3⟩ := keys_in rr g2
        refine ⟨z1, l', y1, ?_, ?_⟩
        · have := congrArg List.length y2
          simp only [List.length_map] at this
          omega
        · obtain ⟨m1, m2⟩ := merge_in (a := []) (a' := []) y2 y3 rfl .nil
          have he : HE H' (upd H' p (.dK (mergeK [] l'))) := HE.upd z1 (fun _ z => nomatch z) (fun _ _ z => nomatch z)
          have pre : ρ' <+: ρ' ++ [p] := List.prefix_append _ _
          exact o (ρ' ++ [p]) _ _ (Ex.adopt hn ex he) (r.adopt np' he (.dct m1 (m2.mono pre he))) (.ref (r.at_new p))
      · exact o.elim
    · exact o.elim
  | exc c fs h2 => rw [e1] at o; exact fun ρ' H' d ex r z => o ρ' H' d (ex0.trans ex) r z
  | bad => rw [e1] at o; exact o.elim
theorem r_dct0 : PE X (.Dict [] [] pos) (LE X.K N Wx (fun _ h => .ok (.ref h.nx) (h.new (.dct [])))) := PE.imp pe_dnewK fun σ H Q ⟨ρ, ls, hp, l, hr, o⟩ p hn => by
  have pre : ρ <+: ρ ++ [p] := List.prefix_append _ _
  exact o (ρ ++ [p]) _ _ (Ex.alloc hn) (hr.new hn (.dct rfl .nil)) (.ref (hr.at_new p))
end
end Ev
set_option maxRecDepth 100000
/-! EvStmt: statements, targets, loops, comprehensions. -/
namespace Ev
open PySem L2

/-! ### equality of values, as a Bool -/
mutual
def W.eqb : W → W → Bool
  | .non, .non => true
  | .bl a, .bl b => a == b
  | .int a, .int b => a == b
  | .str a, .str b => decide (a = b)
  | .tup a, .tup b => W.eqbs a b
  | .fl a, .fl b => W.eqbs a b
  | .ref a, .ref b => a == b
  | .gl a, .gl b => a == b
  | .ty a, .ty b => a == b
  | _, _ => false
def W.eqbs : List W → List W → Bool
  | [], [] => true
  | x :: xs, y :: ys => W.eqb x y && W.eqbs xs ys
  | _, _ => false
end
mutual
theorem W.eq_of : ∀ {a b : W}, W.eqb a b = true → a = b
  | .non, b, h => by cases b <;> simp_all [W.eqb]
  | .bl _, b, h => by cases b <;> simp_all [W.eqb]
  | .int _, b, h => by cases b <;> simp_all [W.eqb]
  | .str _, b, h => by cases b <;> simp_all [W.eqb]
  | .tup xs, b, h => by
    cases b with
    | tup ys => rw [W.eqb] at h; rw [W.eqs_of h]
    | _ => simp [W.eqb] at h
  | .fl xs, b, h => by
    cases b with
    | fl ys => rw [W.eqb] at h; rw [W.eqs_of h]
    | _ => simp [W.eqb] at h
  | .ref _, b, h => by cases b <;> simp_all [W.eqb]
  | .gl _, b, h => by cases b <;> simp_all [W.eqb]
  | .ty _, b, h => by cases b <;> simp_all [W.eqb]
theorem W.eqs_of : ∀ {a b : List W}, W.eqbs a b = true → a = b
  | [], b, h => by cases b <;> simp_all [W.eqbs]
  | x :: xs, b, h => by
    cases b with
    | nil => simp [W.eqbs] at h
    | cons y ys =>
      rw [W.eqbs, Bool.and_eq_true] at h
      rw [W.eq_of h.1, W.eqs_of h.2]
end
mutual
theorem W.eqb_refl : ∀ a : W, W.eqb a a = true
  | .non => by simp [W.eqb]
  | .bl _ => by simp [W.eqb]
  | .int _ => by simp [W.eqb]
  | .str _ => by simp [W.eqb]
  | .tup xs => by rw [W.eqb]; exact W.eqbs_refl xs
  | .fl xs => by rw [W.eqb]; exact W.eqbs_refl xs
  | .ref _ => by simp [W.eqb]
  | .gl _ => by simp [W.eqb]
  | .ty _ => by simp [W.eqb]
theorem W.eqbs_refl : ∀ a : List W, W.eqbs a a = true
  | [] => by simp [W.eqbs]
  | x :: xs => by rw [W.eqbs, W.eqb_refl x, W.eqbs_refl xs]; rfl
end

/-! ### plain statements -/
def sNil : SS := fun ls h => .nx ls h
def sSeq (s t : SS) : SS := fun ls h => match s ls h with
  | .nx ls1 h1 => t ls1 h1
  | r => r
/-- a value to a target -/
abbrev SG := W → Ls → Heap → SR
def gNm (i : Nat) : SG := fun w ls h => .nx (ls.set i (some w)) h
def sAsg (f : SE) (g : SG) : SS := fun ls h => match f ls h with
  | .ok w h1 => g w ls h1
  | .exc c fs h1 => .exc c fs ls h1
  | .bad => .bad
def sExpr (f : SE) : SS := sAsg f fun _ ls h => .nx ls h
def sRet (f : SE) : SS := sAsg f fun w _ h => .rt w h
def sRetN : SS := fun _ h => .rt .non h
def sBrk : SS := fun ls h => .bk ls h
def sCnt : SS := fun ls h => .ct ls h
def sIf (t : SB) (a b : SS) : SS := fun ls h => match t ls h with
  | .ok true h1 => a ls h1
  | .ok false h1 => b ls h1
  | .exc c fs h1 => .exc c fs ls h1
  | .bad => .bad
/-- o[i] = value -/
def wSet : W → W → W → Heap → Option Heap
  | .ref n, k, w, h => match h.get n with
    | some (.dct kvs) => match keyOf k with
      | some k => if kvs.length < sizeLine then some (h.put n (.dct (dPut kvs k w))) else none
      | none => none
    | some (.lst xs) => match k with
      | .int i => match ixN xs.length i with
        | some j => some (h.put n (.lst (xs.set j w)))
        | none => none
      | _ => none
    | _ => none
  | _, _, _, _ => none
def gSb (f g : SE) : SG := fun w ls h => match f ls h with
  | .ok x h1 => match g ls h1 with
    | .ok y h2 => match wSet x y w h2 with
      | some h3 => .nx ls h3
      | none => .bad
    | .exc c fs h2 => .exc c fs ls h2
    | .bad => .bad
  | .exc c fs h1 => .exc c fs ls h1
  | .bad => .bad
/-- several targets, one after another -/
def gEach : List SG → List W → Ls → Heap → SR
  | [], [], ls, h => .nx ls h
  | g :: gs, w :: ws, ls, h => match g w ls h with
    | .nx ls1 h1 => gEach gs ws ls1 h1
    | r => r
  | _, _, _, _ => .bad
def gTp (gs : List SG) : SG := fun w ls h => match w with
  | .tup xs => if xs.length = gs.length then gEach gs xs ls h else .bad
  | _ => .bad
/-- what a target's step may end in -/
def OutG (K : PySem.W.Frag) (N : Nm) (ρ : List Addr) (H : Hp) (r : SR) (Q : St → Hp → Prop) (Wx : WX) : Prop := match r with
  | .nx ls' h' => ∀ ρ' σ' H', Ex ρ ρ' H H' → LR K ρ' H' ls' σ' → HR K N ρ' h' H' → Q σ' H'
  | .exc c fs ls' h' => ∀ ρ' σ' H' d, Ex ρ ρ' H H' → LR K ρ' H' ls' σ' → HR K N ρ' h' H' → XR K N ρ' H' fs d → Wx (.ref (N.ca c)) d σ' H'
  | _ => False
def LG (K : PySem.W.Frag) (N : Nm) (Wx : WX) (g : SG) : TG := fun v σ H Q => ∃ ρ ls h w, LR K ρ H ls σ ∧ HR K N ρ h H ∧ VR K ρ H w v ∧ OutG K N ρ H (g w ls h) Q Wx
def LGs (K : PySem.W.Frag) (N : Nm) (Wx : WX) (gs : List SG) : TGs := fun vs σ H Q => ∃ ρ ls h ws, LR K ρ H ls σ ∧ HR K N ρ h H ∧ VRs K ρ H ws vs ∧ OutG K N ρ H (gEach gs ws ls h) Q Wx
theorem OutG.ex {K : PySem.W.Frag} {N : Nm} {ρ ρ1 : List Addr} {H H1 : Hp} {r : SR} {Q : St → Hp → Prop} {Wx : WX} (e : Ex ρ ρ1 H H1) (h : OutG K N ρ H r Q Wx) : OutG K N ρ1 H1 r Q Wx := by
  cases r with
  | nx ls h' => exact fun ρ' σ' H' e' => h ρ' σ' H' (e.trans e')
  | exc c fs ls h' => exact fun ρ' σ' H' d e' => h ρ' σ' H' d (e.trans e')
  | _ => exact h
theorem OutG.of_S {K : PySem.W.Frag} {N : Nm} {ρ : List Addr} {H : Hp} {r : SR} {D : Ends} {Wx : WX} (h : OutS K N ρ H r D Wx) (p : (∃ ls h, r = .nx ls h) ∨ (∃ c fs ls h, r = .exc c fs ls h)) : OutG K N ρ H r D.nx Wx := by
  rcases p with ⟨ls, h', rfl⟩ | ⟨c, fs, ls, h', rfl⟩
  · exact h
  · exact h
/-- a target: it only goes on or lets an exception out -/
def onlyOn : SR → Prop
  | .rt _ _ => False
  | .bk _ _ => False
  | .ct _ _ => False
  | _ => True
def GOk (g : SG) : Prop := ∀ w ls h, onlyOn (g w ls h)
theorem GOk.out {K : PySem.W.Frag} {N : Nm} {ρ : List Addr} {H : Hp} {g : SG} {w : W} {ls : Ls} {h : Heap} {D : Ends} {Wx : WX} (k : GOk g) (o : OutS K N ρ H (g w ls h) D Wx) : OutG K N ρ H (g w ls h) D.nx Wx := by
  have z := k w ls h
  cases e : g w ls h with
  | nx => rw [e] at o; exact o
  | exc => rw [e] at o; exact o
  | bad => rw [e] at o; exact o.elim
  | rt => rw [e] at z; exact z.elim
  | bk => rw [e] at z; exact z.elim
  | ct => rw [e] at z; exact z.elim
section
variable {X : Cx} {N : Nm} {Wx : WX} {pos : Pos} {e a b c tg : PySem.Expr} {st : PySem.Stmt} {rest body : List PySem.Stmt} {f g : SE} {s t : SS} {tb : SB} {tG : SG}
theorem PG.imp {X : Cx} {e : PySem.Expr} {t t' : TG} (h : PG X e t) (i : ∀ v σ H Q, t' v σ H Q → t v σ H Q) : PG X e t' := ⟨fun pins s σ H v u Q I r q => h.run pins s σ H v u Q I r (i v σ H Q q)⟩
theorem PGs.imp {X : Cx} {e : List PySem.Expr} {t t' : TGs} (h : PGs X e t) (i : ∀ v σ H Q, t' v σ H Q → t v σ H Q) : PGs X e t' := ⟨fun pins s σ H v u Q I r q => h.run pins s σ H v u Q I r (i v σ H Q q)⟩
theorem s_nil : PSs X [] (LS X.K N Wx sNil) := PSs.imp pss_nil fun D σ H ⟨ρ, ls, h, l, hr, o⟩ => o ρ σ H (Ex.refl _ _) l hr
theorem s_cons (h1 : PS X st (LS X.K N Wx s)) (h2 : PSs X rest (LS X.K N Wx t)) : PSs X (st :: rest) (LS X.K N Wx (sSeq s t)) := by
  refine PSs.imp (pss_cons h1 h2) fun D σ H h => ?_
  obtain ⟨ρ, ls, hp, l, hr, o⟩ := h
  refine ⟨ρ, ls, hp, l, hr, ?_⟩
  unfold sSeq at o
  cases e : s ls hp with
  | nx ls1 h1 => rw [e] at o; exact fun ρ' σ' H' ex lr r => ⟨ρ', ls1, h1, lr, r, OutS.ex ex o⟩
  | rt => rw [e] at o; exact o
  | bk => rw [e] at o; exact o
  | ct => rw [e] at o; exact o
  | exc => rw [e] at o; exact o
  | bad => rw [e] at o; exact o.elim
theorem s_one (h1 : PS X st (LS X.K N Wx s)) : PSs X [st] (LS X.K N Wx s) := PSs.imp (pss_one h1) fun D σ H h => h
theorem s_pass : PS X (.Pass pos) (LS X.K N Wx sNil) := PS.imp ps_pass fun D σ H ⟨ρ, ls, h, l, hr, o⟩ => o ρ σ H (Ex.refl _ _) l hr
theorem s_break : PS X (.Break pos) (LS X.K N Wx sBrk) := PS.imp ps_break fun D σ H ⟨ρ, ls, h, l, hr, o⟩ => o ρ σ H (Ex.refl _ _) l hr
theorem s_continue : PS X (.Continue pos) (LS X.K N Wx sCnt) := PS.imp ps_continue fun D σ H ⟨ρ, ls, h, l, hr, o⟩ => o ρ σ H (Ex.refl _ _) l hr
theorem s_expr (he : PE X e (LE X.K N Wx f)) (hs : swapsWith e none pos.line X.env = pure false := by rfl) : PS X (.Expr e pos) (LS X.K N Wx (sExpr f)) := by
  refine PS.imp (ps_expr he hs) fun D σ H h => ?_
  obtain ⟨ρ, ls, hp, l, hr, o⟩ := h
  refine ⟨ρ, ls, hp, l, hr, ?_⟩
  unfold sExpr sAsg at o
  cases e : f ls hp with
  | ok w h1 => rw [e] at o; exact fun ρ' H' v ex r x => o ρ' σ H' ex (l.ex ex) r
  | exc c fs h1 => rw [e] at o; exact fun ρ' H' d ex r x => o ρ' σ H' d ex (l.ex ex) r x
  | bad => rw [e] at o; exact o.elim
theorem s_ret (he : PE X e (LE X.K N Wx f)) : PS X (.Return (some e) pos) (LS X.K N Wx (sRet f)) := by
  refine PS.imp (ps_ret he) fun D σ H h => ?_
  obtain ⟨ρ, ls, hp, l, hr, o⟩ := h
  refine ⟨ρ, ls, hp, l, hr, ?_⟩
  unfold sRet sAsg at o
  cases e : f ls hp with
  | ok w h1 => rw [e] at o; exact fun ρ' H' v ex r x => o ρ' H' v ex r x
  | exc c fs h1 => rw [e] at o; exact fun ρ' H' d ex r x => o ρ' σ H' d ex (l.ex ex) r x
  | bad => rw [e] at o; exact o.elim
theorem s_retN : PS X (.Return none pos) (LS X.K N Wx sRetN) := PS.imp ps_retN fun D σ H ⟨ρ, ls, h, l, hr, o⟩ => o ρ H .non (Ex.refl _ _) hr .non
theorem s_if {body' : List PySem.Stmt} (hc : PT X c (LT X.K N Wx tb)) (ha : PSs X body (LS X.K N Wx s)) (hb : PSs X body' (LS X.K N Wx t)) : PS X (.If c body body' pos) (LS X.K N Wx (sIf tb s t)) := by
  refine PS.imp (ps_if hc ha hb) fun D σ H h => ?_
  obtain ⟨ρ, ls, hp, l, hr, o⟩ := h
  refine ⟨ρ, ls, hp, l, hr, ?_⟩
  unfold sIf at o
  cases e : tb ls hp with
  | ok b h1 =>
    rw [e] at o
    intro ρ' H' ex r
    cases b with
    | true => rw [if_pos rfl]; exact ⟨ρ', ls, h1, l.ex ex, r, OutS.ex ex o⟩
    | false => rw [if_neg Bool.false_ne_true]; exact ⟨ρ', ls, h1, l.ex ex, r, OutS.ex ex o⟩
  | exc c fs h1 => rw [e] at o; exact fun ρ' H' d ex r x => o ρ' σ H' d ex (l.ex ex) r x
  | bad => rw [e] at o; exact o.elim
/-- name = value -/
theorem asg_in {K : PySem.W.Frag} {D : Ends} {σ : St} {H : Hp} (k : GOk tG) (h : LS K N Wx (sAsg f tG) D σ H) : LE K N Wx f σ H fun x H1 => LG K N Wx tG x σ H1 D.nx := by
  obtain ⟨ρ, ls, hp, l, hr, o⟩ := h
  refine ⟨ρ, ls, hp, l, hr, ?_⟩
  unfold sAsg at o
  cases e : f ls hp with
  | ok w h1 => rw [e] at o; exact fun ρ' H' v ex r x => ⟨ρ', ls, h1, w, l.ex ex, r, x, k.out (OutS.ex ex o)⟩
  | exc c fs h1 => rw [e] at o; exact fun ρ' H' d ex r x => o ρ' σ H' d ex (l.ex ex) r x
  | bad => rw [e] at o; exact o.elim
theorem gnm_ok (i : Nat) : GOk (gNm i) := fun _ _ _ => True.intro
theorem gnm_in {K : PySem.W.Frag} {i : Nat} {v : V} {σ : St} {H : Hp} {Q : St → Hp → Prop} (h : LG K N Wx (gNm i) v σ H Q) : gName i v σ H Q := by
  obtain ⟨ρ, ls, hp, w, l, hr, x, o⟩ := h
  exact o ρ _ H (Ex.refl _ _) (l.set i x) hr
theorem s_set {i : Nat} {x : Str} {pos' : Pos} (hN : X.N.Nodup) (hi : X.N[i]? = some x) (hx : Loc X.env.scope x) (he : PE X e (LE X.K N Wx f)) (hs : swapsWith e (some (.Name x pos')) pos.line X.env = pure false := by rfl) (hf : X.fn x = true ∨ X.env.scope.names.lookup x = some .local := by first | exact .inl rfl | exact .inr rfl | assumption) :
    PS X (.Assign [.Name x pos'] e pos) (LS X.K N Wx (sAsg f (gNm i))) := by
  refine PS.imp (ps_set hN hi hx he hs hf) fun D σ H h => ?_
  obtain ⟨ρ, ls, hp, l, hr, o⟩ := asg_in (gnm_ok i) h
  exact ⟨ρ, ls, hp, l, hr, o.mono (fun v H' z => gnm_in z) fun _ _ _ z => z⟩
theorem g_name {i : Nat} {x : Str} (hN : X.N.Nodup) (hi : X.N[i]? = some x) (hx : Loc X.env.scope x) (hf : X.fn x = true ∨ X.env.scope.names.lookup x = some .local := by first | exact .inl rfl | exact .inr rfl | assumption) : PG X (.Name x pos) (LG X.K N Wx (gNm i)) :=
  PG.imp (pg_name hN hi hx hf) fun v σ H Q h => gnm_in h
theorem gs_nil : PGs X [] (LGs X.K N Wx []) := PGs.imp pgs_nil fun vs σ H Q ⟨ρ, ls, h, ws, l, hr, x, o⟩ => by
  cases x with
  | nil => exact ⟨rfl, o ρ σ H (Ex.refl _ _) l hr⟩
  | cons => exact o.elim
theorem gs_cons {es : List PySem.Expr} {gs : List SG} (h1 : PG X e (LG X.K N Wx tG)) (h2 : PGs X es (LGs X.K N Wx gs)) (k : GOk tG)
    (hs : (assignEach (e :: es) X.env).map (·.2) = assign e X.env :: (assignEach es X.env).map (·.2) := by rfl) : PGs X (e :: es) (LGs X.K N Wx (tG :: gs)) := by
  refine PGs.imp (pgs_cons h1 h2 hs) fun vs σ H Q h => ?_
  obtain ⟨ρ, ls, hp, ws, l, hr, x, o⟩ := h
  cases x with
  | nil => exact o.elim
  | @cons w v ws vs q r =>
    refine ⟨_, _, rfl, ρ, ls, hp, w, l, hr, q, ?_⟩
    unfold gEach at o
    have z := k w ls hp
    cases e1 : tG w ls hp with
    | nx ls1 h1 => rw [e1] at o; exact fun ρ' σ' H' ex lr r' => ⟨ρ', ls1, h1, ws, lr, r', r.ex ex, OutG.ex ex o⟩
    | exc => rw [e1] at o; exact o
    | bad => rw [e1] at o; exact o.elim
    | rt => rw [e1] at z; exact z.elim
    | bk => rw [e1] at z; exact z.elim
    | ct => rw [e1] at z; exact z.elim
def GsOk : List SG → Prop
  | [] => True
  | g :: gs => GOk g ∧ GsOk gs
theorem geach_ok : ∀ {gs : List SG}, GsOk gs → ∀ ws ls h, onlyOn (gEach gs ws ls h)
  | [], _, [], _, _ => True.intro
  | [], _, _ :: _, _, _ => True.intro
  | _ :: _, _, [], _, _ => True.intro
  | g :: gs, k, w :: ws, ls, h => by
    have z := k.1 w ls h
    unfold gEach
    cases e : g w ls h with
    | nx ls1 h1 => exact geach_ok k.2 ws ls1 h1
    | exc => exact True.intro
    | bad => exact True.intro
    | rt => rw [e] at z; exact z
    | bk => rw [e] at z; exact z
    | ct => rw [e] at z; exact z
theorem gtp_ok {gs : List SG} (k : GsOk gs) : GOk (gTp gs) := fun w ls h => by
  cases w with
  | tup xs =>
    show onlyOn (if xs.length = gs.length then gEach gs xs ls h else .bad)
    split
    · exact geach_ok k xs ls h
    · exact True.intro
  | _ => exact True.intro
theorem gsb_ok (f g : SE) : GOk (gSb f g) := fun w ls h => by
  unfold gSb
  cases f ls h with
  | ok x h1 =>
    simp only
    cases g ls h1 with
    | ok y h2 =>
      simp only
      cases wSet x y w h2 <;> exact True.intro
    | _ => exact True.intro
  | _ => exact True.intro
/-- a tuple taken apart; every item has its target -/
theorem g_tup {es : List PySem.Expr} {k n : Nat} {gs : List SG} (hc : X.calm = true) (h : PGs X es (LGs X.K N Wx gs)) (hg : GsOk gs) (hl : gs.length = n)
    (hn : (assignEach es X.env).length = n := by rfl) (hst : (assignEach es X.env).findIdx? (·.1) = none := by rfl) : PG X (.Tuple es k pos) (LG X.K N Wx (gTp gs)) := by
  subst hl
  refine PG.imp (pg_tup hc h hn hst) fun v σ H Q h => ?_
  obtain ⟨ρ, ls, hp, w, l, hr, x, o⟩ := h
  cases x with
  | @tup xs ys a q r =>
    simp only [gTp] at o
    split at o
    · rename_i z
      exact ⟨a, ys, rfl, q, by rw [← r.length]; exact z, ρ, ls, hp, xs, l, hr, r, o⟩
    · exact o.elim
  | _ => exact o.elim
def rSetDct : V → V → V → Hp → (Hp → Prop) → Prop := fun o i v H Q => ∃ a H4, o = .ref a ∧ DPut H a i v H4 ∧ Q H4
theorem set_dct (hu : X.A.units + 1 < cLine) : PSet X rSetDct := by
  intro pins s σ H o i v ov iv u Q I ro ri rv h
  obtain ⟨a, H4, rfl, g, q⟩ := h
  obtain rfl : ov = Value.ref a := ro
  exact d_setItem hu I g ri rv fun s4 I4 => ⟨H4, I4, q⟩
theorem PSet.or {t t' : TSet} (h : PSet X t) (h' : PSet X t') : PSet X (fun o i v H Q => t o i v H Q ∨ t' o i v H Q) := by
  intro pins s σ H o i v ov iv u Q I ro ri rv q
  rcases q with q | q
  · exact h pins s σ H o i v ov iv u Q I ro ri rv q
  · exact h' pins s σ H o i v ov iv u Q I ro ri rv q
theorem set_in {K : PySem.W.Frag} {ρ : List Addr} {h h3 : Heap} {H : Hp} {x y w : W} {o i v : V} {Q : Hp → Prop} (hr : HR K N ρ h H) (rx : VR K ρ H x o) (ry : VR K ρ H y i) (rw_ : VR K ρ H w v) (e : wSet x y w h = some h3)
    (q : ∀ H', Ex ρ ρ H H' → HR K N ρ h3 H' → Q H') : rSetL o i v H Q ∨ rSetDct o i v H Q := by
  cases rx with
  | @ref n a qn =>
    simp only [wSet] at e
    split at e
    · rename_i kvs ek
      split at e
      · rename_i k ekk
        split at e
        · rename_i hz
          cases e
          obtain ⟨kvs', h1, h2, h3⟩ := dct_of hr ek qn
          obtain ⟨z1, z2⟩ := dPut_of (k := k) h2 h3 rw_
          obtain ⟨w1, w2⟩ := hr.setD qn h1 z1 z2
          right
          refine ⟨a, _, rfl, ?_, q _ (Ex.put qn w2) w1⟩
          rw [key_of ry ekk]
          refine DPut.k h1 ?_
          have := congrArg List.length h2
          simp only [List.length_map] at this
          omega
        · cases e
      · cases e
    · rename_i xs ex
      split at e
      · rename_i j
        split at e
        · rename_i jj ej
          cases e
          obtain ⟨ys, h1, h2⟩ := lst_mut hr ex qn
          cases ry
          obtain ⟨w1, w2⟩ := hr.setL qn h1 (h2.set rw_ jj)
          left
          exact ⟨a, ys, j, jj, rfl, rfl, h1, by rw [← h2.length]; exact ej, q _ (Ex.put qn w2) w1⟩
        · cases e
      · cases e
    · cases e
  | _ => simp [wSet] at e
theorem g_sub (hu : X.A.units + 1 < cLine) (ho : PE X a (LE X.K N Wx f)) (hi : PE X b (LE X.K N Wx g))
    (ha : ∀ v, assign (.Subscript a b pos) X.env v = (do
      let ov ← holding [v] (eval a X.env)
      let iv ← holding [v, ov] (eval b X.env)
      standAt pos
      holding [v, ov, iv] (setItem ov iv v)
      release [v, ov, iv] []) := by intro _; rfl) : PG X (.Subscript a b pos) (LG X.K N Wx (gSb f g)) := by
  refine PG.imp (pg_sub ho hi (PSet.or set_list (set_dct hu)) ha) fun v σ H Q h => ?_
  obtain ⟨ρ, ls, hp, w, l, hr, x, o⟩ := h
  refine ⟨ρ, ls, hp, l, hr, ?_⟩
  unfold gSb at o
  cases e1 : f ls hp with
  | ok x1 h1 =>
    rw [e1] at o
    simp only at o
    intro ρ1 H1 v1 ex1 r1 rx1
    refine ⟨ρ1, ls, h1, l.ex ex1, r1, ?_⟩
    cases e2 : g ls h1 with
    | ok x2 h2 =>
      rw [e2] at o
      simp only at o
      intro ρ2 H2 v2 ex2 r2 rx2
      split at o
      · rename_i h3 e3
        exact set_in r2 (rx1.ex ex2) rx2 ((x.ex ex1).ex ex2) e3 fun H' ex3 r3 => o ρ2 σ H' ((ex1.trans ex2).trans ex3) (((l.ex ex1).ex ex2).ex ex3) r3
      · exact o.elim
    | exc c fs h2 => rw [e2] at o; exact fun ρ2 H2 d ex2 r2 z => o ρ2 σ H2 d (ex1.trans ex2) ((l.ex ex1).ex ex2) r2 z
    | bad => rw [e2] at o; exact o.elim
  | exc c fs h1 => rw [e1] at o; exact fun ρ1 H1 d ex1 r1 z => o ρ1 σ H1 d ex1 (l.ex ex1) r1 z
  | bad => rw [e1] at o; exact o.elim
/-- target = value, any target -/
theorem s_asg (he : PE X e (LE X.K N Wx f)) (hg : PG X tg (LG X.K N Wx tG)) (k : GOk tG) (hs : swapsWithSole [tg] e pos.line X.env = pure false := by rfl) (hw : swappedStores [tg] e X.env = pure none := by rfl)
    (h1 : (assignEach [tg] X.env).map (·.2) = [assign tg X.env] := by rfl) : PS X (.Assign [tg] e pos) (LS X.K N Wx (sAsg f tG)) :=
  PS.imp (ps_asg he hg hs hw h1) fun D σ H h => asg_in k h
/-- x, y = a, b with plain local names -/
def sPar2 (i j : Nat) (gs : SEs) : SS := fun ls h => match gs ls h with
  | .ok [v, w] h1 => .nx ((ls.set i (some v)).set j (some w)) h1
  | .ok _ _ => .bad
  | .exc c fs h1 => .exc c fs ls h1
  | .bad => .bad
theorem s_par2 {i j : Nat} {x y : Str} {gs : SEs} {px py pt : Pos} {kt k2 pt2} (hc : X.calm = true) (hN : X.N.Nodup) (hi : X.N[i]? = some x) (hj : X.N[j]? = some y) (hij : i ≠ j)
    (hx : X.env.scope.names.lookup x = some .local) (hy : X.env.scope.names.lookup y = some .local) (ha : PA X [a, b] (LA X.K N Wx gs))
    (hw : swappedStores [.Tuple [.Name x px, .Name y py] kt pt] (.Tuple [a, b] k2 pt2) X.env = pure (some [x, y]))
    (hs : swapsWithSole [.Tuple [.Name x px, .Name y py] kt pt] (.Tuple [a, b] k2 pt2) pos.line X.env = pure false := by rfl) :
    PS X (.Assign [.Tuple [.Name x px, .Name y py] kt pt] (.Tuple [a, b] k2 pt2) pos) (LS X.K N Wx (sPar2 i j gs)) := by
  refine PS.imp (ps_par hc hN hi hj hij hx hy ha hw hs) fun D σ H h => ?_
  obtain ⟨ρ, ls, hp, l, hr, o⟩ := h
  refine ⟨ρ, ls, hp, l, hr, ?_⟩
  unfold sPar2 at o
  cases e : gs ls hp with
  | ok ws h1 =>
    rw [e] at o
    intro ρ' H' vs ex r x
    cases x with
    | nil => exact o.elim
    | cons p x => cases x with
      | nil => exact o.elim
      | cons p' x => cases x with
        | nil => exact ⟨_, _, rfl, o ρ' _ H' ex (((l.ex ex).set i p).set j p') r⟩
        | cons => exact o.elim
  | exc c fs h1 => rw [e] at o; exact fun ρ' H' d ex r z => o ρ' σ H' d ex (l.ex ex) r z
  | bad => rw [e] at o; exact o.elim
end
end Ev
set_option maxRecDepth 100000
/-! EvLoop: what is walked, for, while, comprehensions. -/
namespace Ev
open PySem L2

/-! ### while: so many turns at most -/
def whileL (t : SB) (s : SS) : Nat → SS
  | 0, _, _ => .bad
  | n + 1, ls, h => match t ls h with
    | .ok true h1 => match s ls h1 with
      | .nx ls2 h2 => whileL t s n ls2 h2
      | .ct ls2 h2 => whileL t s n ls2 h2
      | .bk ls2 h2 => .nx ls2 h2
      | r => r
    | .ok false h1 => .nx ls h1
    | .exc c fs h1 => .exc c fs ls h1
    | .bad => .bad
section
variable {X : Cx} {N : Nm} {Wx : WX} {pos : Pos} {c : PySem.Expr} {body : List PySem.Stmt} {tb : SB} {s : SS}
theorem s_while (n : Nat) (hp : PassesOwn (model X.prog X.w) X.A X.env X.xe) (hc : PT X c (LT X.K N Wx tb)) (hb : PSs X body (LS X.K N Wx s)) : PS X (.While c body [] pos) (LS X.K N Wx (whileL tb s n)) := by
  refine PS.imp (ps_while hp hc hb) fun D σ H h => ?_
  refine ⟨fun m σ H => ∃ ρ ls h, LR X.K ρ H ls σ ∧ HR X.K N ρ h H ∧ OutS X.K N ρ H (whileL tb s m ls h) D Wx, ⟨n, h⟩, ?_⟩
  rintro m σ H ⟨ρ, ls, hp, l, hr, o⟩
  cases m with
  | zero => exact o.elim
  | succ m =>
    refine ⟨ρ, ls, hp, l, hr, ?_⟩
    rw [whileL] at o
    cases e : tb ls hp with
    | ok b h1 =>
      rw [e] at o
      intro ρ1 H1 ex1 r1
      cases b with
      | true =>
        rw [if_pos rfl]
        simp only at o
        refine ⟨fun σ' H' => ∃ ρ ls h, LR X.K ρ H' ls σ' ∧ HR X.K N ρ h H' ∧ OutS X.K N ρ H' (whileL tb s m ls h) D Wx, fun σ' H' z => ⟨m, Nat.lt_succ_self m, z⟩, ρ1, ls, h1, l.ex ex1, r1, ?_⟩
        cases e2 : s ls h1 with
        | nx ls2 h2 => rw [e2] at o; exact fun ρ2 σ2 H2 ex2 l2 r2 => ⟨ρ2, ls2, h2, l2, r2, OutS.ex (ex1.trans ex2) o⟩
        | ct ls2 h2 => rw [e2] at o; exact fun ρ2 σ2 H2 ex2 l2 r2 => ⟨ρ2, ls2, h2, l2, r2, OutS.ex (ex1.trans ex2) o⟩
        | bk ls2 h2 => rw [e2] at o; exact fun ρ2 σ2 H2 ex2 l2 r2 => o ρ2 σ2 H2 (ex1.trans ex2) l2 r2
        | rt w h2 => rw [e2] at o; exact fun ρ2 H2 v ex2 r2 x => o ρ2 H2 v (ex1.trans ex2) r2 x
        | exc c fs ls2 h2 => rw [e2] at o; exact fun ρ2 σ2 H2 d ex2 l2 r2 x => o ρ2 σ2 H2 d (ex1.trans ex2) l2 r2 x
        | bad => rw [e2] at o; exact o.elim
      | false =>
        rw [if_neg Bool.false_ne_true]
        exact o ρ1 σ H1 ex1 (l.ex ex1) r1
    | exc c fs h1 => rw [e] at o; exact fun ρ' H' d ex r x => o ρ' σ H' d ex (l.ex ex) r x
    | bad => rw [e] at o; exact o.elim
end

/-! ### what is walked -/
/-- the lists stand as they stood -/
def gOk (g : List (Nat × List W)) (h : Heap) : Bool := g.all fun p => match lstAt h p.1 with
  | some ys => W.eqbs ys p.2
  | none => false
/-- what an iterator will hand out; the lists that must stay -/
inductive Ri where
  | ok (xs : List W) (g : List (Nat × List W)) (h : Heap)
  | exc (c : Nat) (fs : List (Nat × W)) (h : Heap)
  | bad
abbrev SI := Ls → Heap → Ri
structure SrcOk (K : PySem.W.Frag) (N : Nm) (ρ0 : List Addr) (H0 : Hp) (xs : List W) (g : List (Nat × List W)) (J : It) : Prop where
  go : ∀ i ρ h H, Ex ρ0 ρ H0 H → HR K N ρ h H → gOk g h = true → i < xs.length → J.go i H
  stop : ∀ ρ h H, Ex ρ0 ρ H0 H → HR K N ρ h H → gOk g h = true → J.stop xs.length H
  yld : ∀ i ρ h H x H2, Ex ρ0 ρ H0 H → HR K N ρ h H → gOk g h = true → i < xs.length → J.yld i H x H2 → ∃ w, xs[i]? = some w ∧ VR K ρ H2 w x ∧ HR K N ρ h H2 ∧ Ex ρ ρ H H2
def LI (K : PySem.W.Frag) (N : Nm) (Wx : WX) (f : SI) : TI := fun σ H R => ∃ ρ ls h, LR K ρ H ls σ ∧ HR K N ρ h H ∧ match f ls h with
  | .ok xs g h1 => ∀ ρ' H' J, Ex ρ ρ' H H' → HR K N ρ' h1 H' → SrcOk K N ρ' H' xs g J → R J H'
  | .exc c fs h1 => ∀ ρ' H' d, Ex ρ ρ' H H' → HR K N ρ' h1 H' → XR K N ρ' H' fs d → Wx (.ref (N.ca c)) d σ H'
  | .bad => False
theorem PI.imp {X : Cx} {tg e : PySem.Expr} {t t' : TI} (h : PI X tg e t) (i : ∀ σ H Q, t' σ H Q → t σ H Q) : PI X tg e t' := ⟨fun pins s σ H Q I q => h.run pins s σ H Q I (i σ H Q q)⟩
theorem gOk_one {n : Nat} {xs : List W} {h : Heap} (e : gOk [(n, xs)] h = true) : lstAt h n = some xs := by
  simp only [gOk, List.all_cons, List.all_nil, Bool.and_true] at e
  split at e
  · rename_i ys q; rw [q, W.eqs_of e]
  · cases e
theorem gOk_one' {n : Nat} {xs : List W} {h : Heap} (e : lstAt h n = some xs) : gOk [(n, xs)] h = true := by
  simp [gOk, e, W.eqbs_refl]
theorem gOk_two {n m : Nat} {xs ys : List W} {h : Heap} (e : gOk [(n, xs), (m, ys)] h = true) : lstAt h n = some xs ∧ lstAt h m = some ys := by
  simp only [gOk, List.all_cons, List.all_nil, Bool.and_true, Bool.and_eq_true] at e
  obtain ⟨e1, e2⟩ := e
  constructor
  · split at e1
    · rename_i zs q; rw [q, W.eqs_of e1]
    · cases e1
  · split at e2
    · rename_i zs q; rw [q, W.eqs_of e2]
    · cases e2
section
variable {K : PySem.W.Frag} {N : Nm} {ρ : List Addr} {h : Heap} {H : Hp}
theorem src_list {n : Nat} {a : Addr} {xs : List W} (q : ρ[n]? = some a) : SrcOk K N ρ H xs [(n, xs)] (Itl K a) where
  go := fun i ρ' h' H' ex r g hi => by
    obtain ⟨ys, h1, h2⟩ := lst_of r (gOk_one g) (pre_get ex.pre q)
    obtain ⟨v, hv, _⟩ := h2.get (i := i) (w := xs[i]) (List.getElem?_eq_some_iff.mpr ⟨hi, rfl⟩)
    exact ⟨ys, v, h1, hv⟩
  stop := fun ρ' h' H' ex r g => by
    obtain ⟨ys, h1, h2⟩ := lst_of r (gOk_one g) (pre_get ex.pre q)
    exact ⟨ys, h1, by rw [h2.length]; exact Nat.le_refl _⟩
  yld := fun i ρ' h' H' x H2 ex r g hi y => by
    obtain ⟨rfl, y⟩ := y
    obtain ⟨ys, h1, h2⟩ := lst_of r (gOk_one g) (pre_get ex.pre q)
    obtain ⟨w, e1, e2⟩ := h2.get' (y ys h1)
    exact ⟨w, e1, e2, r, Ex.refl _ _⟩
theorem src_fl {a : Addr} {xs : List W} {ys : List V} (q : SqF K H a ys) (rr : VRs K ρ H xs ys) : SrcOk K N ρ H xs [] (Itl K a) where
  go := fun i ρ' h' H' ex r g hi => by
    obtain ⟨v, hv, _⟩ := rr.get (i := i) (w := xs[i]) (List.getElem?_eq_some_iff.mpr ⟨hi, rfl⟩)
    exact ⟨ys, v, (SqF.he ex.he q).sq, hv⟩
  stop := fun ρ' h' H' ex r g => ⟨ys, (SqF.he ex.he q).sq, by rw [rr.length]; exact Nat.le_refl _⟩
  yld := fun i ρ' h' H' x H2 ex r g hi y => by
    obtain ⟨rfl, y⟩ := y
    obtain ⟨w, e1, e2⟩ := rr.get' (y ys (SqF.he ex.he q).sq)
    exact ⟨w, e1, e2.ex ex, r, Ex.refl _ _⟩
theorem src_str {z : Str} : SrcOk K N ρ H (z.cps.toList.map fun c => W.str ⟨#[c]⟩) [] (Its z) where
  go := fun i ρ' h' H' ex r g hi => by simpa [Its] using hi
  stop := fun ρ' h' H' ex r g => by simp [Its]
  yld := fun i ρ' h' H' x H2 ex r g hi y => by
    obtain ⟨rfl, c, hc, rfl⟩ := y
    exact ⟨.str ⟨#[c]⟩, by simp [hc], .str _, r, Ex.refl _ _⟩
theorem src_range {lo : Int} {n : Nat} : SrcOk K N ρ H ((List.range n).map fun i => W.int (lo + (i : Nat))) [] (Itr lo n) where
  go := fun i ρ' h' H' ex r g hi => by simpa [Itr] using hi
  stop := fun ρ' h' H' ex r g => by simp [Itr]
  yld := fun i ρ' h' H' x H2 ex r g hi y => by
    obtain ⟨rfl, rfl⟩ := y
    have hi' : i < n := by simpa using hi
    exact ⟨.int (lo + (i : Nat)), by simp [hi'], .int _, r, Ex.refl _ _⟩
theorem src_rangeC {lo c : Int} {n : Nat} : SrcOk K N ρ H ((List.range n).map fun i => W.int (lo + (i : Nat) * c)) [] (Itc lo c n) where
  go := fun i ρ' h' H' ex r g hi => by simpa [Itc] using hi
  stop := fun ρ' h' H' ex r g => by simp [Itc]
  yld := fun i ρ' h' H' x H2 ex r g hi y => by
    obtain ⟨rfl, rfl⟩ := y
    have hi' : i < n := by simpa using hi
    exact ⟨.int (lo + (i : Nat) * c), by simp [hi'], .int _, r, Ex.refl _ _⟩
/-- a new pair -/
theorem new_pair {p : Addr} {x y : W} {u v : V} (r : HR K N ρ h H) (hn : H p = none) (rx : VR K ρ H x u) (ry : VR K ρ H y v) : VR K ρ (upd H p (.tup [u, v])) (.tup [x, y]) (.ref p) ∧ HR K N ρ h (upd H p (.tup [u, v])) ∧ Ex ρ ρ H (upd H p (.tup [u, v])) :=
  ⟨.tup (.inl (.inl upd_same)) ((VRs.cons rx (.cons ry .nil)).ex (Ex.other hn)), r.other hn, Ex.other hn⟩
def enumFrom (i : Nat) : List W → List W
  | [] => []
  | x :: xs => .tup [.int i, x] :: enumFrom (i + 1) xs
theorem enumFrom_get : ∀ {xs : List W} {k i : Nat}, (enumFrom k xs)[i]? = xs[i]?.map fun x => W.tup [.int ((k + i : Nat) : Int), x]
  | [], _, _ => by simp [enumFrom]
  | x :: xs, k, 0 => by simp [enumFrom]
  | x :: xs, k, i + 1 => by
    simp only [enumFrom, List.getElem?_cons_succ, enumFrom_get (xs := xs) (k := k + 1) (i := i)]
    rw [show k + 1 + i = k + (i + 1) by omega]
theorem enumFrom_len : ∀ {xs : List W} {k : Nat}, (enumFrom k xs).length = xs.length
  | [], _ => rfl
  | x :: xs, k => by simp [enumFrom, enumFrom_len (xs := xs)]
theorem src_enum {n : Nat} {a : Addr} {xs : List W} (q : ρ[n]? = some a) : SrcOk K N ρ H (enumFrom 0 xs) [(n, xs)] (Ite K a) where
  go := fun i ρ' h' H' ex r g hi => by
    rw [enumFrom_len] at hi
    obtain ⟨ys, h1, h2⟩ := lst_of r (gOk_one g) (pre_get ex.pre q)
    obtain ⟨v, hv, _⟩ := h2.get (i := i) (w := xs[i]) (List.getElem?_eq_some_iff.mpr ⟨hi, rfl⟩)
    exact ⟨ys, v, h1, hv⟩
  stop := fun ρ' h' H' ex r g => by
    obtain ⟨ys, h1, h2⟩ := lst_of r (gOk_one g) (pre_get ex.pre q)
    exact ⟨ys, h1, by rw [enumFrom_len, h2.length]; exact Nat.le_refl _⟩
  yld := fun i ρ' h' H' x H2 ex r g hi y => by
    obtain ⟨T, x0, rfl, hn, rfl, y⟩ := y
    obtain ⟨ys, h1, h2⟩ := lst_of r (gOk_one g) (pre_get ex.pre q)
    obtain ⟨w, e1, e2⟩ := h2.get' (y ys h1)
    obtain ⟨z1, z2, z3⟩ := new_pair r hn (.int (i : Nat)) e2
    exact ⟨_, by rw [enumFrom_get, e1]; simp, z1, z2, z3⟩
theorem src_enumF {a : Addr} {xs : List W} {ys : List V} (q : SqF K H a ys) (rr : VRs K ρ H xs ys) : SrcOk K N ρ H (enumFrom 0 xs) [] (Ite K a) where
  go := fun i ρ' h' H' ex r g hi => by
    rw [enumFrom_len] at hi
    obtain ⟨v, hv, _⟩ := rr.get (i := i) (w := xs[i]) (List.getElem?_eq_some_iff.mpr ⟨hi, rfl⟩)
    exact ⟨ys, v, (SqF.he ex.he q).sq, hv⟩
  stop := fun ρ' h' H' ex r g => ⟨ys, (SqF.he ex.he q).sq, by rw [enumFrom_len, rr.length]; exact Nat.le_refl _⟩
  yld := fun i ρ' h' H' x H2 ex r g hi y => by
    obtain ⟨T, x0, rfl, hn, rfl, y⟩ := y
    obtain ⟨w, e1, e2⟩ := rr.get' (y ys (SqF.he ex.he q).sq)
    obtain ⟨z1, z2, z3⟩ := new_pair r hn (.int (i : Nat)) (e2.ex ex)
    exact ⟨_, by rw [enumFrom_get, e1]; simp, z1, z2, z3⟩
def zipW : List W → List W → List W
  | x :: xs, y :: ys => .tup [x, y] :: zipW xs ys
  | _, _ => []
theorem zipW_get : ∀ {xs ys : List W} {i : Nat} {x y : W}, xs[i]? = some x → ys[i]? = some y → (zipW xs ys)[i]? = some (.tup [x, y])
  | [], _, _, _, _, h, _ => by simp at h
  | _ :: _, [], _, _, _, _, h => by simp at h
  | a :: xs, b :: ys, 0, x, y, h, h' => by simp at h h'; subst h; subst h'; rfl
  | a :: xs, b :: ys, i + 1, x, y, h, h' => by simp only [zipW, List.getElem?_cons_succ] at h h' ⊢; exact zipW_get h h'
theorem zipW_len : ∀ {xs ys : List W}, (zipW xs ys).length = min xs.length ys.length
  | [], _ => by simp [zipW]
  | _ :: _, [] => by simp [zipW]
  | a :: xs, b :: ys => by simp only [zipW, List.length_cons, zipW_len (xs := xs)]; omega
theorem src_zip {n m : Nat} {a b : Addr} {xs ys : List W} (q : ρ[n]? = some a) (q' : ρ[m]? = some b) : SrcOk K N ρ H (zipW xs ys) [(n, xs), (m, ys)] (Itz K a b) where
  go := fun i ρ' h' H' ex r g hi => by
    rw [zipW_len] at hi
    obtain ⟨g1, g2⟩ := gOk_two g
    obtain ⟨us, h1, h2⟩ := lst_of r g1 (pre_get ex.pre q)
    obtain ⟨vs, h3, h4⟩ := lst_of r g2 (pre_get ex.pre q')
    obtain ⟨u, hu, _⟩ := h2.get (i := i) (w := xs[i]'(by omega)) (List.getElem?_eq_some_iff.mpr ⟨by omega, rfl⟩)
    obtain ⟨v, hv, _⟩ := h4.get (i := i) (w := ys[i]'(by omega)) (List.getElem?_eq_some_iff.mpr ⟨by omega, rfl⟩)
    exact ⟨us, vs, u, v, h1, h3, hu, hv⟩
  stop := fun ρ' h' H' ex r g => by
    obtain ⟨g1, g2⟩ := gOk_two g
    obtain ⟨us, h1, h2⟩ := lst_of r g1 (pre_get ex.pre q)
    obtain ⟨vs, h3, h4⟩ := lst_of r g2 (pre_get ex.pre q')
    refine ⟨us, vs, h1, h3, ?_⟩
    rw [zipW_len, h2.length, h4.length]
    omega
  yld := fun i ρ' h' H' x H2 ex r g hi y => by
    obtain ⟨T, x0, y0, rfl, hn, rfl, y1, y2⟩ := y
    obtain ⟨g1, g2⟩ := gOk_two g
    obtain ⟨us, h1, h2⟩ := lst_of r g1 (pre_get ex.pre q)
    obtain ⟨vs, h3, h4⟩ := lst_of r g2 (pre_get ex.pre q')
    obtain ⟨w, e1, e2⟩ := h2.get' (y1 us h1)
    obtain ⟨w', e3, e4⟩ := h4.get' (y2 vs h3)
    obtain ⟨z1, z2, z3⟩ := new_pair r hn e2 e4
    exact ⟨_, zipW_get e1 e3, z1, z2, z3⟩
end
/-- a list, a tuple, a text -/
def iSeq (f : SE) : SI := fun ls h => match f ls h with
  | .ok (.ref n) h1 => match lstAt h1 n with
    | some xs => .ok xs [(n, xs)] h1
    | none => .bad
  | .ok (.tup xs) h1 => .ok xs [] h1
  | .ok (.fl xs) h1 => .ok xs [] h1
  | .ok (.str z) h1 => .ok (z.cps.toList.map fun c => W.str ⟨#[c]⟩) [] h1
  | .ok _ _ => .bad
  | .exc c fs h1 => .exc c fs h1
  | .bad => .bad
section
variable {X : Cx} {N : Nm} {Wx : WX} {pos p : Pos} {a b tg : PySem.Expr} {f g : SE} {gs : SEs}
theorem iter_vals {pins : List (Addr × Obj)} {s : Shared} {σ : St} {H : Hp} {x : V} {v : Value} {R : It → Hp → Prop} {E : Value → Shared → Prop} (I : Inv X pins σ H s) (rx : RelV x v)
    (h : (∃ a xs, x = .ref a ∧ SqL X.K H a xs ∧ R (Itl X.K a) H) ∨ (∃ a xs, x = .ref a ∧ SqT X.K H a xs ∧ R (Itt X.K a) H) ∨ ∃ z, x = .str z ∧ R (Its z) H) : wpAny (model X.prog X.w) X.A (pyIter v) (PIE X pins σ tg R) E s := by
  rcases h with ⟨a, xs, rfl, hq, q⟩ | ⟨a, xs, rfl, hq, q⟩ | ⟨z, rfl, q⟩
  · cases rx
    obtain ⟨its, rv, pl, hz⟩ := I.list hq
    exact wpAny_pyIter_list pl.isList (pi_one (tk := s.toks) I _ (turn_list a _) ⟨_, Heap.get?_push_size _ rfl, rfl, rfl⟩ q)
  · cases rx
    obtain ⟨its, rv, pl, hz⟩ := I.tuple hq
    exact wpAny_pyIter_tuple (show s.heap.IsTuple a its.toArray from pl) (pi_one (tk := s.toks) I _ (turn_tuple a _) ⟨_, Heap.get?_push_size _ rfl, rfl, rfl⟩ q)
  · obtain ⟨t, rfl⟩ := rx
    cases ha : z.cps.all (· < 128)
    · exact wpAny_pyIter_wide ha (pi_one (tk := s.toks) I _ (turn_str _ z t _ (.inr rfl)) ⟨_, Heap.get?_push_size _ rfl, rfl, rfl⟩ q)
    · exact wpAny_pyIter_ascii ha (pi_one (tk := s.toks) I _ (turn_str _ z t _ (.inl rfl)) ⟨_, Heap.get?_push_size _ rfl, rfl, rfl⟩ q)
theorem src_tup' {K : PySem.W.Frag} {ρ : List Addr} {H : Hp} {a : Addr} {xs : List W} {ys : List V} (q : SqT K H a ys) (rr : VRs K ρ H xs ys) : SrcOk K N ρ H xs [] (Itt K a) where
  go := fun i ρ' h' H' ex r g hi => by
    obtain ⟨v, hv, _⟩ := rr.get (i := i) (w := xs[i]) (List.getElem?_eq_some_iff.mpr ⟨hi, rfl⟩)
    exact ⟨ys, v, SqT.he ex.he q, hv⟩
  stop := fun ρ' h' H' ex r g => ⟨ys, SqT.he ex.he q, by rw [rr.length]; exact Nat.le_refl _⟩
  yld := fun i ρ' h' H' x H2 ex r g hi y => by
    obtain ⟨rfl, y⟩ := y
    obtain ⟨w, e1, e2⟩ := rr.get' (y ys (SqT.he ex.he q))
    exact ⟨w, e1, e2.ex ex, r, Ex.refl _ _⟩
theorem i_seq (ha : PE X a (LE X.K N Wx f)) : PI X tg a (LI X.K N Wx (iSeq f)) := by
  refine ⟨fun pins s σ H R I h => ?_⟩
  obtain ⟨ρ, ls, hp, l, hr, o⟩ := h
  have h2 : LE X.K N Wx f σ H fun x H1 => (∃ a xs, x = .ref a ∧ SqL X.K H1 a xs ∧ R (Itl X.K a) H1) ∨ (∃ a xs, x = .ref a ∧ SqT X.K H1 a xs ∧ R (Itt X.K a) H1) ∨ ∃ z, x = .str z ∧ R (Its z) H1 := by
    refine ⟨ρ, ls, hp, l, hr, ?_⟩
    unfold iSeq at o
    cases e : f ls hp with
    | ok w h1 =>
      rw [e] at o
      intro ρ' H' v ex r x
      cases x with
      | @ref n a q =>
        simp only at o
        split at o
        · rename_i xs e2
          split at e2
          · rename_i us e3
            cases e2
            obtain ⟨ys, z1, z2⟩ := lst_of r e3 q
            exact .inl ⟨a, ys, rfl, z1, o ρ' H' _ ex r (src_list q)⟩
          · cases e2
        · rename_i e2; split at e2 <;> cases e2
        · exact o.elim
      | @tup xs ys a q rr => exact .inr (.inl ⟨a, ys, rfl, q, o ρ' H' _ ex r (src_tup' q rr)⟩)
      | @fl xs ys a q rr => exact .inl ⟨a, ys, rfl, q.sq, o ρ' H' _ ex r (src_fl q rr)⟩
      | str z => exact .inr (.inr ⟨z, rfl, o ρ' H' _ ex r src_str⟩)
      | _ => exact o.elim
    | exc c fs h1 => rw [e] at o; exact o
    | bad => rw [e] at o; exact o.elim
  exact thn (ha.run pins s σ H _ I h2) fun v s1 ⟨x, H1, I1, r1, q1⟩ => iter_vals I1 r1 q1
/-- range(n), range(a, b) -/
def smallR (i : Int) : Bool := decide (-(2 ^ 62) ≤ i) && decide (i < 2 ^ 62)
def rangeW (lo hi : Int) : List W := (List.range (hi - lo).toNat).map fun i => W.int (lo + (i : Nat))
def iRange1 (gs : SEs) : SI := fun ls h => match gs ls h with
  | .ok [.int j] h1 => if smallR j = true then .ok (rangeW 0 j) [] h1 else .bad
  | .ok _ _ => .bad
  | .exc c fs h1 => .exc c fs h1
  | .bad => .bad
def iRange2 (gs : SEs) : SI := fun ls h => match gs ls h with
  | .ok [.int i, .int j] h1 => if (smallR i && smallR j) = true then .ok (rangeW i j) [] h1 else .bad
  | .ok _ _ => .bad
  | .exc c fs h1 => .exc c fs h1
  | .bad => .bad
theorem LA.in_ {K : PySem.W.Frag} {σ : St} {H : Hp} {ρ : List Addr} {ls : Ls} {h : Heap} {Q : List V → Hp → Prop} (l : LR K ρ H ls σ) (hr : HR K N ρ h H) (o : Outs K N ρ H (gs ls h) Q fun c d H' => Wx c d σ H') : LA K N Wx gs σ H Q := ⟨ρ, ls, h, l, hr, o⟩
theorem i_range1 (hg : Gl X "range") (hm : X.mg "range" = none) (ha : PA X [a] (LA X.K N Wx gs)) (hs : starEach [a] X.env = [(false, eval a X.env)] := by rfl) : PI X tg (.Call (.Name "range" p) [a] [] pos) (LI X.K N Wx (iRange1 gs)) := by
  refine PI.imp (pi_range1 hg hm ha hs) fun σ H R h => ?_
  obtain ⟨ρ, ls, hp, l, hr, o⟩ := h
  refine ⟨ρ, ls, hp, l, hr, ?_⟩
  unfold iRange1 at o
  cases e : gs ls hp with
  | ok ws h1 =>
    rw [e] at o
    intro ρ' H' vs ex r x
    cases x with
    | nil => exact o.elim
    | cons p x => cases x with
      | nil => cases p with
        | int j =>
          simp only at o
          split at o
          · rename_i xs g h2 e2
            split at e2
            · rename_i z
              cases e2
              simp only [smallR, Bool.and_eq_true, decide_eq_true_eq] at z
              refine ⟨j, rfl, z.1, z.2, ?_⟩
              have := o ρ' H' (Itr 0 (j - 0).toNat) ex r src_range
              simpa using this
            · cases e2
          · rename_i e2; split at e2 <;> cases e2
          · exact o.elim
        | _ => exact o.elim
      | cons => cases p <;> exact o.elim
  | exc c fs h1 => rw [e] at o; exact o
  | bad => rw [e] at o; exact o.elim
theorem i_range2 (hg : Gl X "range") (hm : X.mg "range" = none) (ha : PA X [a, b] (LA X.K N Wx gs)) (hs : starEach [a, b] X.env = [(false, eval a X.env), (false, eval b X.env)] := by rfl) (hs2 : starEach [b] X.env = [(false, eval b X.env)] := by rfl) :
    PI X tg (.Call (.Name "range" p) [a, b] [] pos) (LI X.K N Wx (iRange2 gs)) := by
  refine PI.imp (pi_range2 hg hm ha hs hs2) fun σ H R h => ?_
  obtain ⟨ρ, ls, hp, l, hr, o⟩ := h
  refine ⟨ρ, ls, hp, l, hr, ?_⟩
  unfold iRange2 at o
  cases e : gs ls hp with
  | ok ws h1 =>
    rw [e] at o
    intro ρ' H' vs ex r x
    cases x with
    | nil => exact o.elim
    | cons p x => cases x with
      | nil => cases p <;> exact o.elim
      | cons p' x => cases x with
        | nil => cases p with
          | int i => cases p' with
            | int j =>
              simp only at o
              split at o
              · rename_i xs g h2 e2
                split at e2
                · rename_i z
                  cases e2
                  simp only [smallR, Bool.and_eq_true, decide_eq_true_eq] at z
                  exact ⟨i, j, rfl, ⟨z.1.1, z.1.2, z.2.1, z.2.2⟩, o ρ' H' (Itr i (j - i).toNat) ex r src_range⟩
                · cases e2
              · rename_i e2; split at e2 <;> cases e2
              · exact o.elim
            | _ => exact o.elim
          | _ => exact o.elim
        | cons => cases p <;> first | exact o.elim | (cases p' <;> exact o.elim)
  | exc c fs h1 => rw [e] at o; exact o
  | bad => rw [e] at o; exact o.elim
/-- enumerate(list) -/
def iEnumW (gs : SEs) : SI := fun ls h => match gs ls h with
  | .ok [.ref n] h1 => match lstAt h1 n with
    | some xs => .ok (enumFrom 0 xs) [(n, xs)] h1
    | none => .bad
  | .ok [.fl xs] h1 => .ok (enumFrom 0 xs) [] h1
  | .ok _ _ => .bad
  | .exc c fs h1 => .exc c fs h1
  | .bad => .bad
theorem i_enum {tpos : Pos} {elts : List PySem.Expr} {kk : Nat} (hg : Gl X "enumerate") (hm : X.mg "enumerate" = none) (ha : PA X [a] (LA X.K N Wx gs)) (hs : starEach [a] X.env = [(false, eval a X.env)] := by rfl) :
    PI X (.Tuple elts kk tpos) (.Call (.Name "enumerate" p) [a] [] pos) (LI X.K N Wx (iEnumW gs)) := by
  refine PI.imp (pi_enum hg hm ha hs) fun σ H R h => ?_
  obtain ⟨ρ, ls, hp, l, hr, o⟩ := h
  refine ⟨ρ, ls, hp, l, hr, ?_⟩
  unfold iEnumW at o
  cases e : gs ls hp with
  | ok ws h1 =>
    rw [e] at o
    intro ρ' H' vs ex r x
    cases x with
    | nil => exact o.elim
    | cons p x => cases x with
      | nil => cases p with
        | @ref n a q =>
          simp only at o
          split at o
          · rename_i xs g h2 e2
            split at e2
            · rename_i us e3
              cases e2
              obtain ⟨ys, z1, z2⟩ := lst_of r e3 q
              exact ⟨a, ys, rfl, z1, o ρ' H' _ ex r (src_enum q)⟩
            · cases e2
          · rename_i e2; split at e2 <;> cases e2
          · exact o.elim
        | @fl xs ys a q rr => exact ⟨a, ys, rfl, q.sq, o ρ' H' _ ex r (src_enumF q rr)⟩
        | _ => exact o.elim
      | cons => cases p <;> exact o.elim
  | exc c fs h1 => rw [e] at o; exact o
  | bad => rw [e] at o; exact o.elim
end
end Ev
set_option maxRecDepth 100000
/-! EvComp: targets that are names, for, comprehensions. -/
namespace Ev
open PySem L2

/-! ### targets: names, tuples of names -/
inductive Tg where
  | one (i : Nat) | two (i j : Nat) | three (i j k : Nat)
def bindTg : Tg → W → Ls → Option Ls
  | .one i, w, ls => some (ls.set i (some w))
  | .two i j, .tup [x, y], ls => some ((ls.set i (some x)).set j (some y))
  | .three i j k, .tup [x, y, z], ls => some (((ls.set i (some x)).set j (some y)).set k (some z))
  | _, _, _ => none
def tgOf (K : PySem.W.Frag) : Tg → TG
  | .one i => gName i
  | .two i j => gTup K 2 (gCons (gName i) (gCons (gName j) gNil))
  | .three i j k => gTup K 3 (gCons (gName i) (gCons (gName j) (gCons (gName k) gNil)))
def Tg.has : Tg → Nat → Prop
  | .one i, n => n = i
  | .two i j, n => n = i ∨ n = j
  | .three i j k, n => n = i ∨ n = j ∨ n = k
theorem wipe_set {σ : St} {i : Nat} {a : Option V} : ∀ {vs : List Nat}, i ∈ vs → wipe (σ.set i a) vs = wipe σ vs
  | [], h => by simp at h
  | v :: vs, h => by
    unfold wipe
    by_cases hv : i ∈ vs
    · rw [wipe_set hv]
    · have e : i = v := by
        rcases List.mem_cons.mp h with e | e
        · exact e
        · exact (hv e).elim
      subst e
      have aux : ∀ {ws : List Nat}, i ∉ ws → wipe (σ.set i a) ws = (wipe σ ws).set i a := by
        intro ws
        induction ws with
        | nil => intro _; rfl
        | cons w ws ih =>
          intro hn
          simp only [List.mem_cons, not_or] at hn
          unfold wipe
          rw [ih hn.2, List.set_comm _ _ hn.1]
      rw [aux hv, List.set_set]
theorem tg_in {K : PySem.W.Frag} {ρ : List Addr} {H : Hp} {t : Tg} {w : W} {v : V} {ls ls' : Ls} {σ : St} {Q : St → Hp → Prop} (l : LR K ρ H ls σ) (x : VR K ρ H w v) (e : bindTg t w ls = some ls')
    (q : ∀ σ', LR K ρ H ls' σ' → (∀ vs : List Nat, (∀ i, t.has i → i ∈ vs) → wipe σ' vs = wipe σ vs) → Q σ' H) : tgOf K t v σ H Q := by
  cases t with
  | one i =>
    simp only [bindTg, Option.some.injEq] at e
    subst e
    exact q _ (l.set i x) fun vs h => wipe_set (h i rfl)
  | two i j =>
    cases x with
    | tup s r => cases r with
      | nil => cases e
      | cons r1 r => cases r with
        | nil => cases e
        | cons r2 r => cases r with
          | nil =>
            simp only [bindTg, Option.some.injEq] at e
            subst e
            refine ⟨_, _, rfl, s, rfl, _, _, rfl, _, _, rfl, rfl, ?_⟩
            exact q _ ((l.set i r1).set j r2) fun vs h => by rw [wipe_set (h j (.inr rfl)), wipe_set (h i (.inl rfl))]
          | cons => cases e
    | _ => cases e
  | three i j k =>
    cases x with
    | tup s r => cases r with
      | nil => cases e
      | cons r1 r => cases r with
        | nil => cases e
        | cons r2 r => cases r with
          | nil => cases e
          | cons r3 r => cases r with
            | nil =>
              simp only [bindTg, Option.some.injEq] at e
              subst e
              refine ⟨_, _, rfl, s, rfl, _, _, rfl, _, _, rfl, _, _, rfl, rfl, ?_⟩
              exact q _ (((l.set i r1).set j r2).set k r3) fun vs h => by rw [wipe_set (h k (.inr (.inr rfl))), wipe_set (h j (.inr (.inl rfl))), wipe_set (h i (.inl rfl))]
            | cons => cases e
    | _ => cases e

/-! ### for -/
def forL (t : Tg) (body : SS) (g : List (Nat × List W)) : List W → SS
  | [], ls, h => if gOk g h = true then .nx ls h else .bad
  | x :: xs, ls, h => if gOk g h = true then match bindTg t x ls with
    | some ls1 => match body ls1 h with
      | .nx ls2 h2 => forL t body g xs ls2 h2
      | .ct ls2 h2 => forL t body g xs ls2 h2
      | .bk ls2 h2 => .nx ls2 h2
      | r => r
    | none => .bad
    else .bad
def sFor (t : Tg) (src : SI) (body : SS) : SS := fun ls h => match src ls h with
  | .ok xs g h1 => forL t body g xs ls h1
  | .exc c fs h1 => .exc c fs ls h1
  | .bad => .bad
section
variable {X : Cx} {N : Nm} {Wx : WX} {pos : Pos} {tg iter : PySem.Expr} {body : List PySem.Stmt} {t : Tg} {src : SI} {s : SS}
theorem s_for (hp : PassesOwn (model X.prog X.w) X.A X.env X.xe) (hc : X.calm = true) (hi : PI X tg iter (LI X.K N Wx src)) (hg : PG X tg (tgOf X.K t)) (hb : PSs X body (LS X.K N Wx s))
    (hs : ∀ x, foldedSetIterable iter X.env x = pure x := by intro _; rfl) : PS X (.For tg iter body [] pos) (LS X.K N Wx (sFor t src s)) := by
  refine PS.imp (ps_for hp hc hi hg hb hs) fun D σ H h => ?_
  obtain ⟨ρ, ls, hp, l, hr, o⟩ := h
  refine ⟨ρ, ls, hp, l, hr, ?_⟩
  unfold sFor at o
  cases e : src ls hp with
  | ok xs g h1 =>
    rw [e] at o
    simp only at o
    intro ρ1 H1 J ex1 r1 S
    refine ⟨fun i m σ H => m = xs.length - i ∧ i ≤ xs.length ∧ ∃ ρ' ls h, Ex ρ1 ρ' H1 H ∧ LR X.K ρ' H ls σ ∧ HR X.K N ρ' h H ∧ OutS X.K N ρ' H (forL t s g (xs.drop i) ls h) D Wx,
      ⟨xs.length, by simp, Nat.zero_le _, ρ1, ls, h1, Ex.refl _ _, l.ex ex1, r1, by rw [List.drop_zero]; exact OutS.ex ex1 o⟩, ?_⟩
    rintro i m σ2 H2 ⟨rfl, hi, ρ2, ls2, h2, ex2, l2, r2, o2⟩
    by_cases hlt : i < xs.length
    · rw [List.drop_eq_getElem_cons hlt, forL] at o2
      split at o2
      · rename_i ok
        refine .inr ⟨S.go i ρ2 h2 H2 ex2 r2 ok hlt, fun σ' H' => i + 1 ≤ xs.length ∧ ∃ ρ' ls h, Ex ρ1 ρ' H1 H' ∧ LR X.K ρ' H' ls σ' ∧ HR X.K N ρ' h H' ∧ OutS X.K N ρ' H' (forL t s g (xs.drop (i + 1)) ls h) D Wx,
          fun σ' H' z => ⟨xs.length - (i + 1), by omega, rfl, z.1, z.2⟩, fun x H' y => ?_⟩
        obtain ⟨w, ew, rw_, r3, ex3⟩ := S.yld i ρ2 h2 H2 x H' ex2 r2 ok hlt y
        have : xs[i] = w := by rw [List.getElem?_eq_getElem hlt] at ew; exact Option.some.inj ew
        rw [this] at o2
        split at o2
        · rename_i ls3 eb
          refine tg_in (l2.ex ex3) rw_ eb fun σ3 l3 _ => ?_
          refine ⟨ρ2, ls3, h2, l3, r3, ?_⟩
          have o3 := OutS.ex ex3 o2
          have ex13 := ex2.trans ex3
          cases es : s ls3 h2 with
          | nx ls4 h4 => rw [es] at o3; exact fun ρ4 σ4 H4 ex4 l4 r4 => ⟨hlt, ρ4, ls4, h4, ex13.trans ex4, l4, r4, OutS.ex ex4 o3⟩
          | ct ls4 h4 => rw [es] at o3; exact fun ρ4 σ4 H4 ex4 l4 r4 => ⟨hlt, ρ4, ls4, h4, ex13.trans ex4, l4, r4, OutS.ex ex4 o3⟩
          | bk ls4 h4 => rw [es] at o3; exact o3
          | rt w h4 => rw [es] at o3; exact o3
          | exc c fs ls4 h4 => rw [es] at o3; exact o3
          | bad => rw [es] at o3; exact o3.elim
        · exact o2.elim
      · exact o2.elim
    · have he : i = xs.length := by omega
      subst he
      rw [List.drop_length, forL] at o2
      split at o2
      · rename_i ok
        exact .inl ⟨S.stop ρ2 h2 H2 ex2 r2 ok, o2 ρ2 σ2 H2 (Ex.refl _ _) l2 r2⟩
      · exact o2.elim
  | exc c fs h1 => rw [e] at o; exact fun ρ' H' d ex r z => o ρ' σ H' d ex (l.ex ex) r z
  | bad => rw [e] at o; exact o.elim
end

/-! ### comprehensions -/
def wipeL (ls : Ls) : List Nat → Ls
  | [] => ls
  | v :: vs => (wipeL ls vs).set v none
theorem LR.wipe {K : PySem.W.Frag} {ρ : List Addr} {H : Hp} {ls : Ls} {σ : St} (l : LR K ρ H ls σ) : ∀ vs : List Nat, LR K ρ H (wipeL ls vs) (L2.wipe σ vs)
  | [] => l
  | v :: vs => (LR.wipe l vs).unset v
/-- no exception leaves -/
abbrev W0 : WX := fun _ _ _ _ => False
def bYes : SB := fun _ h => .ok true h
/-- the items of the new list -/
def compL (t : Tg) (g : List (Nat × List W)) (cond : SB) (elt : SE) (ls : Ls) : List W → Heap → Rs
  | [], h => if gOk g h = true then .ok [] h else .bad
  | x :: xs, h => if gOk g h = true then match bindTg t x ls with
    | some ls1 => match cond ls1 h with
      | .ok true h2 => match elt ls1 h2 with
        | .ok y h3 => match compL t g cond elt ls xs h3 with
          | .ok ys h4 => .ok (y :: ys) h4
          | r => r
        | _ => .bad
      | .ok false h2 => compL t g cond elt ls xs h2
      | _ => .bad
    | none => .bad
    else .bad
/-- [elt for t in src if cond]; vs: the block's own names -/
def eComp (vs : List Nat) (t : Tg) (src : SI) (cond : SB) (elt : SE) : SE := fun ls h => match src ls h with
  | .ok xs g h1 => if xs.length ≤ sizeLine then match compL t g cond elt (wipeL ls vs) xs h1 with
    | .ok ys h2 => .ok (.ref h2.nx) (h2.new (.lst ys))
    | _ => .bad
    else .bad
  | .exc c fs h1 => .exc c fs h1
  | .bad => .bad
theorem upd_self {H : Hp} {p : Addr} {O : HO} (h : H p = some O) : upd H p O = H := by
  funext b
  unfold upd
  split
  · rename_i e; rw [e, h]
  · rfl
theorem Ex.grow {ρ ρ' : List Addr} {H H' : Hp} {p : Addr} (hn : H p = none) (ex : Ex ρ ρ' H H') : Ex ρ (ρ' ++ [p]) H H' :=
  ⟨ex.pre.trans (List.prefix_append _ _), ex.he, fun a U h nx n => by
    obtain ⟨h1, n1⟩ := ex.fr a U h nx n
    refine ⟨h1, fun m => ?_⟩
    rcases List.mem_append.mp m with m | m
    · exact n1 m
    · simp at m; exact ne_of_none h hn m⟩
/-- a thing beside the heap that was not there at the start -/
theorem Ex.side {ρ ρ' : List Addr} {H H' : Hp} {p : Addr} {O : HO} (hn : H p = none) (ex : Ex ρ ρ' H H') (he : HE H' (upd H' p O)) : Ex ρ ρ' H (upd H' p O) :=
  ⟨ex.pre, ex.he.trans he, fun a U h nx n => by
    obtain ⟨h1, n1⟩ := ex.fr a U h nx n
    exact ⟨by rw [upd_ne (ne_of_none h hn)]; exact h1, n1⟩⟩
theorem compL_len {t : Tg} {g : List (Nat × List W)} {cond : SB} {elt : SE} {ls : Ls} : ∀ {xs : List W} {h h' : Heap} {ys : List W}, compL t g cond elt ls xs h = .ok ys h' → ys.length ≤ xs.length
  | [], h, h', ys, e => by
    rw [compL] at e
    split at e
    · cases e; exact Nat.le_refl _
    · cases e
  | x :: xs, h, h', ys, e => by
    rw [compL] at e
    split at e
    · split at e
      · split at e
        · split at e
          · split at e
            · rename_i q
              cases e
              simpa using compL_len q
            · rename_i r q; exact absurd e (q _ _)
          · cases e
        · exact Nat.le_succ_of_le (compL_len e)
        · cases e
      · cases e
    · cases e
section
variable {X : Cx} {N : Nm} {Wx : WX} {pos : Pos} {elt tg iter : PySem.Expr} {ifs : List PySem.Expr} {t : Tg} {src : SI} {cond : SB} {f : SE} {scope : Scope} {own : List (Str × Nat)}
theorem PTs.imp {X : Cx} {e : List PySem.Expr} {t t' : TT} (h : PTs X e t) (i : ∀ σ H Q, t' σ H Q → t σ H Q) : PTs X e t' := ⟨fun pins s σ H Q I q => h.run pins s σ H Q I (i σ H Q q)⟩
theorem c_nil : PTs X [] (LT X.K N Wx bYes) := PTs.imp pts_nil fun σ H Q ⟨ρ, ls, h, l, hr, o⟩ => o ρ H (Ex.refl _ _) hr
theorem c_one {c : PySem.Expr} (h : PT X c (LT X.K N Wx cond)) : PTs X [c] (LT X.K N Wx cond) := pts_one h
theorem lc_in {K : PySem.W.Frag} {σ : St} {H : Hp} {Q : VK} (hown : ∀ i, t.has i → i ∈ own.map (·.2)) (h : LE K N Wx (eComp (own.map (·.2)) t src cond f) σ H Q) :
    tLc (LI K N Wx src) (tgOf K t) (LT K N W0 cond) (LE K N W0 f) (own.map (·.2)) σ H Q := by
  obtain ⟨ρ, ls, hp, l, hr, o⟩ := h
  refine ⟨ρ, ls, hp, l, hr, ?_⟩
  unfold eComp at o
  cases e : src ls hp with
  | ok xs g h1 =>
    rw [e] at o
    simp only at o
    intro ρ1 H1 J ex1 r1 S D hD
    split at o
    · rename_i hsz
      have nD : D ∉ ρ1 := fun m => r1.fresh hD D m rfl
      -- what is still to be made, behind acc
      generalize hC : compL t g cond f (wipeL ls (own.map (·.2))) = C at o
      have Fin : ∃ F : List W → Rs → Prop, (∀ acc r, F acc r ↔ ∃ ys h2, r = .ok ys h2 ∧ acc.length + ys.length ≤ sizeLine ∧ Out K N ρ1 H1 (.ok (.ref h2.nx) (h2.new (.lst (acc ++ ys)))) Q (fun c d H' => Wx c d σ H')) := ⟨_, fun _ _ => Iff.rfl⟩
      obtain ⟨Fin, hF⟩ := Fin
      have start : Fin [] (C xs h1) := by
        rw [hF]
        cases ec : C xs h1 with
        | ok ys h2 =>
          rw [ec] at o
          refine ⟨ys, h2, rfl, ?_, by rw [List.nil_append]; exact Out.ex ex1 o⟩
          rw [← hC] at ec
          have := compL_len ec
          simp only [List.length_nil]
          omega
        | exc => rw [ec] at o; exact o.elim
        | bad => rw [ec] at o; exact o.elim
      refine ⟨fun i m H => m = xs.length - i ∧ i ≤ xs.length ∧ ∃ ρ' h acc av, Ex ρ1 ρ' H1 H ∧ HR K N ρ' h H ∧ VRs K ρ' H acc av ∧ H D = some (.lst av) ∧ D ∉ ρ' ∧ Fin acc (C (xs.drop i) h),
        ⟨xs.length, by simp, Nat.zero_le _, ρ1, h1, [], [], Ex.other hD, r1.other hD, .nil, upd_same, nD, by rw [List.drop_zero]; exact start⟩, ?_⟩
      rintro i m H2 ⟨rfl, hi, ρ2, h2, acc, av, ex2, r2, ra, eD, nD2, fin⟩
      by_cases hlt : i < xs.length
      · have hstep : C (xs[i] :: xs.drop (i + 1)) h2 = if gOk g h2 = true then match bindTg t xs[i] (wipeL ls (own.map (·.2))) with
            | some ls1 => match cond ls1 h2 with
              | .ok true h2 => match f ls1 h2 with
                | .ok y h3 => match C (xs.drop (i + 1)) h3 with
                  | .ok ys h4 => .ok (y :: ys) h4
                  | r => r
                | _ => .bad
              | .ok false h2 => C (xs.drop (i + 1)) h2
              | _ => .bad
            | none => .bad
            else .bad := by rw [← hC, compL]
        rw [List.drop_eq_getElem_cons hlt, hstep] at fin
        have nobad : ∀ acc, ¬ Fin acc .bad := fun acc z => by obtain ⟨ys, h2, q, _⟩ := (hF _ _).mp z; cases q
        have noexc : ∀ acc c fs h, ¬ Fin acc (.exc c fs h) := fun acc c fs h z => by obtain ⟨ys, h2, q, _⟩ := (hF _ _).mp z; cases q
        split at fin
        · rename_i ok
          refine .inr ⟨S.go i ρ2 h2 H2 ex2 r2 ok hlt, fun H' => i + 1 ≤ xs.length ∧ ∃ ρ' h acc av, Ex ρ1 ρ' H1 H' ∧ HR K N ρ' h H' ∧ VRs K ρ' H' acc av ∧ H' D = some (.lst av) ∧ D ∉ ρ' ∧ Fin acc (C (xs.drop (i + 1)) h),
            fun H' z => ⟨xs.length - (i + 1), by omega, rfl, z.1, z.2⟩, fun x H3 y => ?_⟩
          obtain ⟨w, ew, rw_, r3, ex3⟩ := S.yld i ρ2 h2 H2 x H3 ex2 r2 ok hlt y
          have : xs[i] = w := by rw [List.getElem?_eq_getElem hlt] at ew; exact Option.some.inj ew
          rw [this] at fin
          have l0 : LR K ρ2 H3 (wipeL ls (own.map (·.2))) (L2.wipe σ (own.map (·.2))) := ((l.ex ex1).ex (ex2.trans ex3)).wipe _
          split at fin
          · rename_i ls3 eb
            refine tg_in l0 rw_ eb fun σ3 l3 hw => ?_
            have hw' := hw (own.map (·.2)) hown
            have hw2 : L2.wipe (L2.wipe σ (own.map (·.2))) (own.map (·.2)) = L2.wipe σ (own.map (·.2)) := by
              have : ∀ (ws : List Nat), (∀ i ∈ ws, i ∈ own.map (·.2)) → L2.wipe (L2.wipe σ ws) (own.map (·.2)) = L2.wipe σ (own.map (·.2)) := by
                intro ws
                induction ws with
                | nil => intro _; rfl
                | cons v ws ih =>
                  intro hv
                  show L2.wipe ((L2.wipe σ ws).set v none) _ = _
                  rw [wipe_set (hv v (by simp))]
                  exact ih fun i hi => hv i (List.mem_cons_of_mem _ hi)
              exact this _ fun _ h => h
            refine ⟨hw'.trans hw2, ρ2, ls3, h2, l3, r3, ?_⟩
            obtain ⟨eD3, nD3⟩ := ex3.fr D _ eD (fun _ z => nomatch z) nD2
            cases ec : cond ls3 h2 with
            | ok b h4 =>
              rw [ec] at fin
              intro ρ4 H4 ex4 r4
              obtain ⟨eD4, nD4⟩ := ex4.fr D _ eD3 (fun _ z => nomatch z) nD3
              cases b with
              | true =>
                rw [if_pos rfl]
                simp only at fin
                refine ⟨ρ4, ls3, h4, l3.ex ex4, r4, ?_⟩
                cases ef : f ls3 h4 with
                | ok y h5 =>
                  rw [ef] at fin
                  simp only at fin
                  intro ρ5 H5 yv ex5 r5 ry
                  obtain ⟨eD5, nD5⟩ := ex5.fr D _ eD4 (fun _ z => nomatch z) nD4
                  have exa := (ex3.trans ex4).trans ex5
                  have ra5 := ra.ex exa
                  cases er : C (xs.drop (i + 1)) h5 with
                  | ok ys h6 =>
                    rw [er] at fin
                    obtain ⟨ys', h6', q, f1, f2⟩ := (hF _ _).mp fin
                    cases q
                    have he : HE H5 (upd H5 D (.lst (av ++ [yv]))) := HE.upd eD5 (fun _ z => nomatch z) (fun _ _ z => nomatch z)
                    have hl : acc.length = av.length := ra.length
                    refine ⟨av, eD5, by simp only [List.length_cons] at f1; omega, hlt, ρ5, h5, acc ++ [y], av ++ [yv], Ex.side hD (ex2.trans exa) he, r5.he he fun a m => upd_ne (fun z => nD5 (z ▸ m)), (ra5.append (.cons ry .nil)).mono List.prefix_rfl he, upd_same, nD5, ?_⟩
                    rw [er, hF]
                    exact ⟨ys, h6, rfl, by simp only [List.length_append, List.length_cons, List.length_nil] at f1 ⊢; omega, by rw [List.append_assoc]; exact f2⟩
                  | exc => rw [er] at fin; exact (noexc _ _ _ _ fin).elim
                  | bad => rw [er] at fin; exact (nobad _ fin).elim
                | exc => rw [ef] at fin; exact (nobad _ fin).elim
                | bad => rw [ef] at fin; exact (nobad _ fin).elim
              | false =>
                rw [if_neg Bool.false_ne_true]
                exact ⟨hlt, ρ4, h4, acc, av, (ex2.trans ex3).trans ex4, r4, ra.ex (ex3.trans ex4), eD4, nD4, fin⟩
            | exc => rw [ec] at fin; exact (nobad _ fin).elim
            | bad => rw [ec] at fin; exact (nobad _ fin).elim
          · exact (nobad _ fin).elim
        · exact (nobad _ fin).elim
      · have he : i = xs.length := by omega
        subst he
        have hstep : C [] h2 = if gOk g h2 = true then .ok [] h2 else .bad := by rw [← hC, compL]
        rw [List.drop_length, hstep] at fin
        obtain ⟨ys, h3, q, f1, f2⟩ := (hF _ _).mp fin
        split at q
        · rename_i ok
          cases q
          refine .inl ⟨S.stop ρ2 h2 H2 ex2 r2 ok, ?_⟩
          rw [List.append_nil] at f2
          have e2 : upd H2 D (.lst av) = H2 := upd_self eD
          have hr3 : HR K N (ρ2 ++ [D]) (h2.new (.lst acc)) (upd H2 D (.lst av)) := r2.adopt nD2 (by rw [e2]; exact HE.refl _) (by rw [e2]; exact .lst (ra.mono (List.prefix_append _ _) (HE.refl _)))
          rw [e2] at hr3
          exact f2 (ρ2 ++ [D]) H2 _ (Ex.grow hD ex2) hr3 (.ref (r2.at_new D))
        · cases q
    · exact o.elim
  | exc c fs h1 => rw [e] at o; exact fun ρ' H' d ex r z => o ρ' H' d ex r z
  | bad => rw [e] at o; exact o.elim
end
end Ev
set_option maxRecDepth 100000
/-! EvCall: comprehensions as values, fields, calls, defs. -/
namespace Ev
open PySem L2

section
variable {X : Cx} {N : Nm} {Wx : WX} {pos spos py : Pos} {elt tg iter : PySem.Expr} {ifs : List PySem.Expr} {t : Tg} {src : SI} {cond : SB} {f : SE} {scope : Scope} {own : List (Str × Nat)}
theorem tg_one {i : Nat} {x : Str} (hN : X.N.Nodup) (hi : X.N[i]? = some x) (hx : Loc X.env.scope x) (hf : X.fn x = true ∨ X.env.scope.names.lookup x = some .local := by first | exact .inl rfl | exact .inr rfl | assumption) : PG X (.Name x pos) (tgOf X.K (.one i)) := pg_name hN hi hx hf
theorem tg_two {i j k : Nat} {x y : Str} {px py : Pos} (hc : X.calm = true) (h1 : PG X (.Name x px) (gName i)) (h2 : PG X (.Name y py) (gName j))
    (ha : (assignEach [.Name x px, .Name y py] X.env).map (·.2) = assign (.Name x px) X.env :: (assignEach [.Name y py] X.env).map (·.2) := by rfl) (hb : (assignEach [.Name y py] X.env).map (·.2) = assign (.Name y py) X.env :: (assignEach [] X.env).map (·.2) := by rfl)
    (hn : (assignEach [.Name x px, .Name y py] X.env).length = 2 := by rfl) (hst : (assignEach [.Name x px, .Name y py] X.env).findIdx? (·.1) = none := by rfl) : PG X (.Tuple [.Name x px, .Name y py] k pos) (tgOf X.K (.two i j)) :=
  pg_tup hc (pgs_cons h1 (pgs_cons h2 pgs_nil hb) ha) hn hst
/-- [elt for .. in .. if ..] -/
theorem r_lc (hc : X.calm = true) (hN : X.N.Nodup) (hi : PI X tg iter (LI X.K N Wx src)) (ok : BlkOk X.N X.env.scope scope own) (hown : ∀ i, t.has i → i ∈ own.map (·.2))
    (hg : ∀ (s : Shared) (H : Hp) (C : Addr) (cl : List (Str × Addr)) (fp : List Addr), PG (X.blk s H scope (compEnvC scope cl C X.env) fp) tg (tgOf X.K t))
    (ht : ∀ (s : Shared) (H : Hp) (C : Addr) (cl : List (Str × Addr)) (fp : List Addr), PTs (X.blk s H scope (compEnvC scope cl C X.env) fp) ifs (LT X.K N W0 cond))
    (he : ∀ (s : Shared) (H : Hp) (C : Addr) (cl : List (Str × Addr)) (fp : List Addr), PE (X.blk s H scope (compEnvC scope cl C X.env) fp) elt (LE X.K N W0 f))
    (hs : ∀ x, foldedSetIterable iter X.env x = pure x := by intro _; rfl) : PE X (.ListComp elt [⟨tg, iter, ifs, 0⟩] scope pos) (LE X.K N Wx (eComp (own.map (·.2)) t src cond f)) :=
  PE.imp (pe_lc hc hN hi ok hg ht he hs) fun σ H Q h => lc_in hown h
/-- y = [elt for .. in .. if ..], stored at once -/
theorem s_setLc {i : Nat} {y : Str} (hc : X.calm = true) (hN : X.N.Nodup) (hy : X.N[i]? = some y) (hyl : X.env.scope.names.lookup y = some .local)
    (hsw : swapsWith (.ListComp elt [⟨tg, iter, ifs, 0⟩] scope pos) (some (.Name y py)) spos.line X.env = pure true) (hi : PI X tg iter (LI X.K N Wx src)) (ok : BlkOk X.N X.env.scope scope own) (hown : ∀ i, t.has i → i ∈ own.map (·.2))
    (hg : ∀ (s : Shared) (H : Hp) (C : Addr) (cl : List (Str × Addr)) (fp : List Addr), PG (X.blk s H scope (compEnvC scope cl C X.env) fp) tg (tgOf X.K t))
    (ht : ∀ (s : Shared) (H : Hp) (C : Addr) (cl : List (Str × Addr)) (fp : List Addr), PTs (X.blk s H scope (compEnvC scope cl C X.env) fp) ifs (LT X.K N W0 cond))
    (he : ∀ (s : Shared) (H : Hp) (C : Addr) (cl : List (Str × Addr)) (fp : List Addr), PE (X.blk s H scope (compEnvC scope cl C X.env) fp) elt (LE X.K N W0 f))
    (hs : ∀ x, foldedSetIterable iter X.env x = pure x := by intro _; rfl) : PS X (.Assign [.Name y py] (.ListComp elt [⟨tg, iter, ifs, 0⟩] scope pos) spos) (LS X.K N Wx (sAsg (eComp (own.map (·.2)) t src cond f) (gNm i))) := by
  refine PS.imp (ps_setLc hc hN hy hyl hsw hi ok hg ht he hs) fun D σ H h => ?_
  obtain ⟨ρ, ls, hp, l, hr, o⟩ := asg_in (gnm_ok i) h
  exact lc_in hown ⟨ρ, ls, hp, l, hr, o.mono (fun v H' z => gnm_in z) fun _ _ _ z => z⟩
end

/-! ### fields -/
def fGet (fs : List (Nat × W)) (i : Nat) : Option W := (fs.find? fun p => p.1 == i).map (·.2)
def fPut (i : Nat) (w : W) : List (Nat × W) → List (Nat × W)
  | [] => [(i, w)]
  | (j, x) :: r => if j = i then (j, w) :: r else (j, x) :: fPut i w r
section
variable {K : PySem.W.Frag} {N : Nm} {ρ : List Addr} {H : Hp}
theorem fGet_of : ∀ {fs : List (Nat × W)} {fs' : List (Str × V)}, fs'.map (·.1) = fs.map (fun f => N.an f.1) → VRs K ρ H (fs.map (·.2)) (fs'.map (·.2)) → ∀ {i : Nat} {w : W}, fGet fs i = some w → ∃ v, fs'.lookup (N.an i) = some v ∧ VR K ρ H w v
  | [], _, _, _, i, w, e => by cases e
  | (a, x) :: r, [], e1, _, i, w, e => by cases e1
  | (a, x) :: r, (b, y) :: r', e1, rr, i, w, e => by
    simp only [List.map_cons, List.cons.injEq] at e1
    obtain ⟨e0, e1⟩ := e1
    cases rr with
    | cons q rr =>
      by_cases hk : a = i
      · subst hk
        simp [fGet, List.find?_cons] at e
        subst e
        exact ⟨y, by rw [List.lookup_cons, e0]; simp, q⟩
      · have h1 : (N.an i == b) = false := by
          rw [e0]
          exact beq_eq_false_iff_ne.mpr fun z => hk (N.inj _ _ z).symm
        obtain ⟨v, z1, z2⟩ := fGet_of e1 rr (i := i) (w := w) (by simpa [fGet, List.find?_cons, hk] using e)
        exact ⟨v, by rw [List.lookup_cons, h1]; exact z1, z2⟩
theorem fGet_none : ∀ {fs : List (Nat × W)} {fs' : List (Str × V)}, fs'.map (·.1) = fs.map (fun f => N.an f.1) → ∀ {i : Nat}, fGet fs i = none → fs'.lookup (N.an i) = none
  | [], [], _, i, _ => rfl
  | [], _ :: _, e1, _, _ => by cases e1
  | (a, x) :: r, [], e1, i, e => by cases e1
  | (a, x) :: r, (b, y) :: r', e1, i, e => by
    simp only [List.map_cons, List.cons.injEq] at e1
    obtain ⟨e0, e1⟩ := e1
    by_cases hk : a = i
    · subst hk; simp [fGet, List.find?_cons] at e
    · have h1 : (N.an i == b) = false := by
        rw [e0]
        exact beq_eq_false_iff_ne.mpr fun z => hk (N.inj _ _ z).symm
      rw [List.lookup_cons, h1]
      exact fGet_none e1 (i := i) (by simpa [fGet, List.find?_cons, hk] using e)
theorem fPut_of {i : Nat} {w : W} {v : V} (q : VR K ρ H w v) : ∀ {fs : List (Nat × W)} {fs' : List (Str × V)}, fs'.map (·.1) = fs.map (fun f => N.an f.1) → VRs K ρ H (fs.map (·.2)) (fs'.map (·.2)) →
    (putF (N.an i) v fs').map (·.1) = (fPut i w fs).map (fun f => N.an f.1) ∧ VRs K ρ H ((fPut i w fs).map (·.2)) ((putF (N.an i) v fs').map (·.2))
  | [], [], _, _ => ⟨rfl, .cons q .nil⟩
  | [], _ :: _, e1, _ => by cases e1
  | (a, x) :: r, [], e1, _ => by cases e1
  | (a, x) :: r, (b, y) :: r', e1, rr => by
    simp only [List.map_cons, List.cons.injEq] at e1
    obtain ⟨e0, e1⟩ := e1
    cases rr with
    | cons q1 rr =>
      obtain ⟨i1, i2⟩ := fPut_of q e1 rr
      unfold fPut putF
      by_cases hk : a = i
      · subst hk
        rw [if_pos rfl, if_pos e0]
        exact ⟨by simp [e0, e1], .cons q rr⟩
      · rw [if_neg hk, if_neg (fun z => hk (N.inj _ _ (e0.symm.trans z)))]
        simp only [List.map_cons]
        exact ⟨by rw [i1, e0], .cons q1 i2⟩
theorem ins_of {h : Heap} {n c : Nat} {fs : List (Nat × W)} {a : Addr} (hr : HR K N ρ h H) (e : h.get n = some (.ins c fs)) (q : ρ[n]? = some a) :
    ∃ dx, ∃ fs' : List (Str × V), H a = some (.ins (N.ca c) dx fs') ∧ fs'.map (·.1) = fs.map (fun f => N.an f.1) ∧ VRs K ρ H (fs.map (·.2)) (fs'.map (·.2)) := by
  obtain ⟨O, h2, h3⟩ := hr.at e q
  cases h3 with | ins k r => exact ⟨_, _, h2, k, r⟩
theorem HR.setF {h : Heap} {n c : Nat} {a dx : Addr} {fs' gs' : List (Str × V)} {gs : List (Nat × W)} (r : HR K N ρ h H) (q : ρ[n]? = some a) (e : H a = some (.ins (N.ca c) dx fs')) (k : gs'.map (·.1) = gs.map (fun f => N.an f.1)) (x : VRs K ρ H (gs.map (·.2)) (gs'.map (·.2))) :
    HR K N ρ (h.put n (.ins c gs)) (upd H a (.ins (N.ca c) dx gs')) ∧ HE H (upd H a (.ins (N.ca c) dx gs')) := by
  have he : HE H (upd H a (.ins (N.ca c) dx gs')) := HE.upd e (fun _ z => nomatch z) (fun _ _ z => nomatch z)
  exact ⟨r.put q e (fun _ z => nomatch z) (fun _ _ z => nomatch z) (.ins k (x.mono List.prefix_rfl he)), he⟩
end
/-- what an attribute is in a class: a field, a property -/
inductive At where
  | none | fld | prop (G : List W → Heap → R)
/-- no exception comes out -/
def R.calm : R → R
  | .exc _ _ _ => .bad
  | r => r
/-- o.f -/
def eAttr (at_ : Nat → At) (i : Nat) (f : SE) : SE := eUn (fun x h => match x with
  | .ref n => match h.get n with
    | some (.ins c fs) => match at_ c with
      | .fld => match fGet fs i with
        | some w => .ok w h
        | none => .bad
      | .prop G => (G [.ref n] h).calm
      | .none => .bad
    | _ => .bad
  | _ => .bad) f
section
variable {X : Cx} {N : Nm} {Wx : WX} {pos pos' : Pos} {e o : PySem.Expr} {f : SE}
structure AtOk (X : Cx) (N : Nm) (i : Nat) (c : Nat) (a : At) : Prop where
  fld : a = .fld → Cls X.K (N.ca c) ∧ NoAttr X.K (N.ca c) (N.an i)
  prop : ∀ G, a = .prop G → Cls X.K (N.ca c) ∧ ∃ p g k fd ps, PropOf X.K (N.ca c) (N.an i) p g ∧ FnOk X.prog X.w X.K X.mg X.base (L2.CX X.prog X.w) k g fd ps (LSp X.K N G) ∧ Room (k + 1) X.A ∧ Binds X.K fd ps []
theorem attr_at {pins : List (Addr × Obj)} {s : Shared} {σ : St} {H : Hp} {ρ : List Addr} {h : Heap} {n i : Nat} {a : Addr} {at_ : Nat → At} {Q : VK} {E : XK} {b : Bool} {E' : Value → Shared → Prop} (ha : ∀ c, AtOk X N i c (at_ c)) (I : Inv X pins σ H s) (hr : HR X.K N ρ h H) (q : ρ[n]? = some a)
    (o : Out X.K N ρ H (match h.get n with
      | some (.ins c fs) => match at_ c with
        | .fld => match fGet fs i with
          | some w => .ok w h
          | none => .bad
        | .prop G => (G [.ref n] h).calm
        | .none => .bad
      | _ => .bad) Q E) : wpAny (model X.prog X.w) X.A (getAttr (.ref a) (N.an i) b) (EP X pins σ Q) E' s := by
  split at o
  · rename_i c fs eg
    obtain ⟨dx, fs', e1, e2, e3⟩ := ins_of hr eg q
    split at o
    · rename_i ec
      split at o
      · rename_i w ew
        obtain ⟨c1, c2⟩ := (ha c).fld ec
        obtain ⟨v, l, rv⟩ := fGet_of e2 e3 ew
        exact getattr_ok I e1 c1 c2 l fun u s' I' ru => ⟨v, H, I', ru, o.val hr rv⟩
      · exact o.elim
    · rename_i G ec
      obtain ⟨c1, p, g, k, fd, ps, h1, h2, h3, h4⟩ := (ha c).prop G ec
      refine getprop_ok I e1 c1 h1 h2 h3 h4 .nil (E := fun _ _ _ => False) (fun _ _ _ _ _ _ _ z => ?_) ?_
      · obtain ⟨_, _, _, _, _, _, _, _, _, _, _, _, z⟩ := z
        exact z
      · refine ⟨ρ, [.ref n], h, .cons (.ref q) .nil, hr, ?_⟩
        cases eG : G [.ref n] h with
        | ok w h1 => rw [eG] at o; exact o
        | exc => rw [eG] at o; exact o.elim
        | bad => rw [eG] at o; exact o.elim
    · exact o.elim
  · exact o.elim
theorem r_attr {i : Nat} {x : Str} {at_ : Nat → At} (ha : ∀ c, AtOk X N i c (at_ c)) (hx : N.an i = x) (he : PE X e (LE X.K N Wx f)) (hb : attributeBase e x X.env (eval e X.env) = eval e X.env) : PE X (.Attribute e x pos) (LE X.K N Wx (eAttr at_ i f)) := by
  subst hx
  refine ⟨fun pins s σ H Q I h => ?_⟩
  have h2 : LE X.K N Wx f σ H fun v H1 => ∃ ρ h x, HR X.K N ρ h H1 ∧ VR X.K ρ H1 x v ∧ Out X.K N ρ H1 ((fun (x : W) (h : Heap) => match x with
    | .ref n => match h.get n with
      | some (.ins c fs) => match at_ c with
        | .fld => match fGet fs i with
          | some w => R.ok w h
          | none => .bad
        | .prop G => (G [.ref n] h).calm
        | .none => .bad
      | _ => .bad
    | _ => .bad) x h) Q (fun c d H' => Wx c d σ H') := one_in h fun ρ ls h H x v l hr rx o => ⟨ρ, h, x, hr, rx, o⟩
  refine attr_of hb (thn (he.run pins s σ H _ I h2) fun u s1 ⟨v, H1, I1, rv, ρ, h, x, hr, rx, o⟩ => ?_)
  cases rx with
  | @ref n a q =>
    obtain rfl : u = Value.ref a := rv
    exact attr_at ha I1 hr q o
  | _ => exact o.elim
/-- o.f = value -/
def gAttr (okc : Nat → Bool) (i : Nat) (f : SE) : SG := fun w ls h => match f ls h with
  | .ok (.ref n) h1 => match h1.get n with
    | some (.ins c fs) => if okc c = true ∧ fs.length < 1000 then .nx ls (h1.put n (.ins c (fPut i w fs))) else .bad
    | _ => .bad
  | .ok _ _ => .bad
  | .exc c fs h1 => .exc c fs ls h1
  | .bad => .bad
theorem gattr_ok (okc : Nat → Bool) (i : Nat) (f : SE) : GOk (gAttr okc i f) := fun w ls h => by
  unfold gAttr
  cases f ls h with
  | ok x h1 =>
    cases x with
    | ref n =>
      simp only
      cases h1.get n with
      | none => exact True.intro
      | some u => cases u with
        | ins c fs =>
          simp only
          split <;> exact True.intro
        | _ => exact True.intro
    | _ => exact True.intro
  | _ => exact True.intro
theorem g_attr {i : Nat} {x : Str} {okc : Nat → Bool} (hk : ∀ c, okc c = true → Cls X.K (N.ca c) ∧ NoAttr X.K (N.ca c) (N.an i)) (hx : N.an i = x) (ho : PE X o (LE X.K N Wx f))
    (ha : ∀ v, assign (.Attribute o x pos) X.env v = (do
      let ov ← holding [v] (eval o X.env)
      standAt pos.atName
      holding [v, ov] (setAttr ov x v)
      release [v, ov] []) := by intro _; rfl) : PG X (.Attribute o x pos) (LG X.K N Wx (gAttr okc i f)) := by
  subst hx
  refine ⟨fun pins s σ H v u Q I r h => ?_⟩
  obtain ⟨ρ, ls, hp, w, l, hr, xw, out⟩ := h
  rw [ha]
  have h2 : LE X.K N Wx f σ H fun y H1 => ∃ a C dx fs, y = .ref a ∧ H1 a = some (.ins C dx fs) ∧ Cls X.K C ∧ NoAttr X.K C (N.an i) ∧ fs.length < 1000 ∧ Q σ (upd H1 a (.ins C dx (putF (N.an i) v fs))) := by
    refine ⟨ρ, ls, hp, l, hr, ?_⟩
    unfold gAttr at out
    cases e1 : f ls hp with
    | ok y h1 =>
      rw [e1] at out
      intro ρ1 H1 v1 ex1 r1 rx1
      cases rx1 with
      | @ref n a q =>
        simp only at out
        split at out
        · rename_i c fs eg
          split at out
          · rename_i z
            obtain ⟨dx, fs', e2, e3, e4⟩ := ins_of r1 eg q
            obtain ⟨c1, c2⟩ := hk c z.1
            obtain ⟨p1, p2⟩ := fPut_of (N := N) (i := i) (xw.ex ex1) e3 e4
            obtain ⟨w1, w2⟩ := r1.setF q e2 p1 p2
            refine ⟨a, _, dx, fs', rfl, e2, c1, c2, ?_, out ρ1 σ _ (ex1.trans (Ex.put q w2)) ((l.ex ex1).ex (Ex.put q w2)) w1⟩
            have := congrArg List.length e3
            simp only [List.length_map] at this
            omega
          · exact out.elim
        · exact out.elim
      | _ => exact out.elim
    | exc c fs h1 => rw [e1] at out; exact fun ρ' H' d ex r z => out ρ' σ H' d ex (l.ex ex) r z
    | bad => rw [e1] at out; exact out.elim
  refine wpAny_bind (wpAny_holding (thn (ho.run pins s σ H _ I h2) fun ov s1 ⟨y, H1, I1, r1, a, C, dx, fs, ey, e2, c1, c2, hl, q⟩ => ?_))
  subst ey
  obtain rfl : ov = Value.ref a := r1
  refine wpAny_bind (wpAny_standAt (wpAny_bind (wpAny_holding (setattr_ok I1 e2 c1 c2 hl r fun s3 I3 => ?_))))
  exact wpAny_release ⟨σ, _, I3, q⟩
end

/-! ### calls -/
/-- a def's promise, where no container is being shown -/
structure FG (P : Program) (w : World) (K : PySem.W.Frag) (mg : Str → Option Value) (base : PySem.Heap) (k : Nat) (f : Addr) (fd : FuncData) (ps : List Str) (sp : Sp) : Prop where
  len : ∀ vs H Q E, sp vs H Q E → vs.length = ps.length
  run : ∀ (A : Around) (outer : List Env) (s : Shared) (H : Hp) (args : Args) (us : List Value) (vs : List V) (Q : VK) (E : XK), Room k A → A.guards = some [] → Env0 P w K mg base A outer s H → BindsTo s fd args (ps.zip us) → Vals vs us → sp vs H Q E →
    codeAny (model P w) A (.call (.ref f) args) (CR (L2.CX P w) outer P w H s Q E) s
theorem FG.of {P : Program} {w : World} {K : PySem.W.Frag} {mg : Str → Option Value} {base : PySem.Heap} {k : Nat} {f : Addr} {fd : FuncData} {ps : List Str} {sp : Sp} (F : FnOk P w K mg base (L2.CX P w) k f fd ps sp) : FG P w K mg base k f fd ps sp :=
  ⟨F.len, fun A outer s H args us vs Q E hr _ => F.run A outer s H args us vs Q E hr⟩
theorem FG.mono {P : Program} {w : World} {K : PySem.W.Frag} {mg : Str → Option Value} {base : PySem.Heap} {j k : Nat} {f : Addr} {fd : FuncData} {ps : List Str} {sp : Sp} (F : FG P w K mg base j f fd ps sp) (h : j ≤ k) : FG P w K mg base k f fd ps sp :=
  ⟨F.len, fun A outer s H args us vs Q E hr => F.run A outer s H args us vs Q E (hr.mono h)⟩
theorem FG.imp {P : Program} {w : World} {K : PySem.W.Frag} {mg : Str → Option Value} {base : PySem.Heap} {k : Nat} {f : Addr} {fd : FuncData} {ps : List Str} {sp sp' : Sp} (F : FG P w K mg base k f fd ps sp) (h : ∀ vs H Q E, sp' vs H Q E → sp vs H Q E) : FG P w K mg base k f fd ps sp' :=
  ⟨fun vs H Q E q => F.len vs H Q E (h _ _ _ _ q), fun A outer s H args us vs Q E hr hg he hb hv hs => F.run A outer s H args us vs Q E hr hg he hb hv (h _ _ _ _ hs)⟩

/-- what is called does G: n positional values, the keywords ks -/
def CalS (X : Cx) (N : Nm) (Wx : WX) (fv : Value) (n : Nat) (ks : List Str) (G : List W → List W → Heap → R) : Prop :=
  ∀ (pins : List (Addr × Obj)) (s : Shared) (σ : St) (H : Hp) (us ws : List Value) (vs zs : List V) (xs ys : List W) (ρ : List Addr) (h : Heap) (Q : VK), Inv X pins σ H s → Vals vs us → Vals zs ws → VRs X.K ρ H xs vs → VRs X.K ρ H ys zs → us.length = n → ws.length = ks.length →
    HR X.K N ρ h H → Out X.K N ρ H (G xs ys h) Q (fun c d H' => Wx c d σ H') → wpAny (model X.prog X.w) X.A (call fv us (ks.zip ws)) (EP X pins σ Q) X.xe s
/-- how a def's parameters are filled: by n positional values, the keywords ks, defaults -/
def KB (K : PySem.W.Frag) (fd : FuncData) (ps : List Str) (n : Nat) (ks : List Str) (gW : List W → List W → List W) : Prop :=
  ∃ g : List Value → List Value → List Value, (∀ (s : Shared) (us ws : List Value), K.In s.heap → us.length = n → ws.length = ks.length → BindsTo s fd ⟨us, ks.zip ws⟩ (ps.zip (g us ws))) ∧
    ∀ {ρ : List Addr} {H : Hp} {xs ys : List W} {vs zs : List V} {us ws : List Value}, VRs K ρ H xs vs → VRs K ρ H ys zs → Vals vs us → Vals zs ws → us.length = n → ws.length = ks.length → ∃ os, VRs K ρ H (gW xs ys) os ∧ Vals os (g us ws)
theorem KB.plain {K : PySem.W.Frag} {fd : FuncData} {ps : List Str} (hb : Binds K fd ps []) : KB K fd ps ps.length [] fun xs _ => xs := by
  refine ⟨fun us _ => us, fun s us ws X l1 l2 => ?_, fun r1 r2 r3 r4 l1 l2 => ⟨_, r1, r3⟩⟩
  have := hb s us X (by rw [List.append_nil]; exact l1)
  rw [List.append_nil] at this
  exact this
/-- defaults fill up -/
theorem KB.dfl {K : PySem.W.Frag} {fd : FuncData} {ps : List Str} {ds : List Value} {dvs : List V} {dws : List W} {n : Nat} (hb : Binds K fd ps ds) (hd : Vals dvs ds) (hw : ∀ ρ H, VRs K ρ H dws dvs) (hn : n + ds.length = ps.length) : KB K fd ps n [] fun xs _ => xs ++ dws := by
  refine ⟨fun us _ => us ++ ds, fun s us ws X l1 l2 => ?_, fun r1 r2 r3 r4 l1 l2 => ⟨_, r1.append (hw _ _), r3.append hd⟩⟩
  exact hb s us X (by rw [List.length_append]; omega)
section
variable {X : Cx} {N : Nm} {Wx : WX} {pos p apos : Pos} {e o : PySem.Expr} {es : List PySem.Expr} {kws : List Keyword} {f : SE} {gs hs : SEs} {k n : Nat} {fa : Addr} {fd : FuncData} {ps ks : List Str} {F : List W → Heap → R} {gW : List W → List W → List W}
theorem cal_fn (FF : FG X.prog X.w X.K X.mg X.base k fa fd ps (LSp X.K N F)) (hr : Room k X.A) (hgu : X.A.guards = some []) (hb : KB X.K fd ps n ks gW) (tk : Takes X Wx) : CalS X N Wx (.ref fa) n ks fun xs ys h => F (gW xs ys) h := by
  intro pins s σ H us ws vs zs xs ys ρ h Q I r1 r2 r3 r4 l1 l2 hh o
  obtain ⟨g, h1, h2⟩ := hb
  obtain ⟨os, z1, z2⟩ := h2 r3 r4 r1 r2 l1 l2
  have sp : LSp X.K N F os H Q (fun c d H' => Wx c d σ H') := ⟨ρ, _, h, z1, hh, o⟩
  have hl := FF.len _ _ _ _ sp
  refine wpAny_call (codeAny_mono (FF.run X.A X.stack s H ⟨us, ks.zip ws⟩ (g us ws) os Q _ hr hgu I.env0 (h1 s us ws I.kIn l1 l2) z2 sp) fun r s' hq => ?_)
  cases r with
  | error e => exact passAt tk σ pins H s e s' I hq
  | ok fl => cases fl with
    | ret u => exact I.after hq
    | _ => exact False.elim hq
/-- C(..): a new instance, then its __init__ -/
def mkObj (c : Nat) (F : List W → Heap → R) (gW : List W → List W → List W) (xs ys : List W) (h : Heap) : R :=
  (F (gW (.ref h.nx :: xs) ys) (h.new (.ins c []))).bind fun w h' => match w with
    | .non => .ok (.ref h.nx) h'
    | _ => .bad
theorem make_guards {A : Around} {C : Addr} {us : List Value} {kw : List (Str × Value)} : (A.under (.builtin "type.__call__" ⟨.ref C :: us, kw⟩)).guards = A.guards := by
  first | rfl | (cases e : A.guards <;> simp [Around.under, Code.guards, Code.isGuard, guardIds, pushGuards, e])
theorem cal_make {c : Nat} (M : Mk X.K (N.ca c) fa) (FF : FG X.prog X.w X.K X.mg X.base k fa fd ps (LSp X.K N F)) (hr : Room (k + 1) X.A) (hgu : X.A.guards = some []) (hb : KB X.K fd ps (n + 1) ks gW) (tk : Takes X Wx) : CalS X N Wx (.ref (N.ca c)) n ks (mkObj c F gW) := by
  intro pins s σ H us ws vs zs xs ys ρ h Q I r1 r2 r3 r4 l1 l2 hh o
  obtain ⟨g, h1, h2⟩ := hb
  have I2 := Inv.made (C := N.ca c) I
  have f1 := I.hok.fresh (Nat.le_succ s.heap.objs.size)
  have f0 := I.hok.fresh (Nat.le_refl s.heap.objs.size)
  have ne : s.heap.objs.size ≠ s.heap.objs.size + 1 := Nat.ne_of_lt (Nat.lt_succ_self _)
  have f2 : upd H s.heap.objs.size (.own (s.heap.objs.size + 1)) (s.heap.objs.size + 1) = none := by rw [upd_ne ne.symm]; exact f1
  have ex1 : Ex ρ ρ H (upd H s.heap.objs.size (.own (s.heap.objs.size + 1))) := Ex.other f0
  have hh1 := hh.other (O := .own (s.heap.objs.size + 1)) f0
  have ex2 := ex1.trans (Ex.alloc (ρ := ρ) (O := .ins (N.ca c) s.heap.objs.size []) f2)
  have hh2 : HR X.K N (ρ ++ [s.heap.objs.size + 1]) (h.new (.ins c [])) _ := hh1.new f2 (O := .ins (N.ca c) s.heap.objs.size []) (.ins rfl .nil)
  have q0 : (ρ ++ [s.heap.objs.size + 1])[h.nx]? = some (s.heap.objs.size + 1) := hh.at_new _
  obtain ⟨os, z1, z2⟩ := h2 (VRs.cons (.ref q0) (r3.ex ex2)) (r4.ex ex2) (.cons rfl r1 : Vals (V.ref (s.heap.objs.size + 1) :: vs) (Value.ref (s.heap.objs.size + 1) :: us)) r2 (by rw [List.length_cons, l1]) l2
  have sp : LSp X.K N F os (upd (upd H s.heap.objs.size (.own (s.heap.objs.size + 1))) (s.heap.objs.size + 1) (.ins (N.ca c) s.heap.objs.size [])) (fun v H2 => v = .non ∧ Q (.ref (s.heap.objs.size + 1)) H2) (fun c d H' => Wx c d σ H') := by
    refine ⟨_, _, _, z1, hh2, ?_⟩
    refine (Out.bind (Out.ex ex2 o)).mono (fun v H1 z => ?_) fun _ _ _ z => z
    obtain ⟨ρ1, w, h1, e1, hr1, rx, o1⟩ := z
    cases rx with
    | non => exact ⟨rfl, o1.val hr1 (.ref (pre_get e1.pre q0))⟩
    | _ => exact o1.elim
  have hl := FF.len _ _ _ _ sp
  refine wpAny_call (make_map (f := fa) I.kIn M.makes M.init (beq_iff_eq.mp M.fn) (codeAny_mono (FF.run _ X.stack _ _ ⟨Value.ref (s.heap.objs.size + 1) :: us, ks.zip ws⟩ (g (Value.ref (s.heap.objs.size + 1) :: us) ws) os _ _ (hr.make (N.ca c) us (ks.zip ws)) (make_guards.trans hgu)
    (I2.env0.make (N.ca c) us (ks.zip ws)) (h1 _ (Value.ref (s.heap.objs.size + 1) :: us) ws I2.kIn (by rw [List.length_cons, l1]) l2) z2 sp) fun r s' hq' => ?_))
  cases r with
  | error e => exact passAt tk σ pins _ _ e s' I2 hq'
  | ok fl => cases fl with
    | ret u =>
      obtain ⟨v, H', I3, rv, ev, q3⟩ := I2.after hq'
      subst ev
      exact ⟨rv, ⟨V.ref (s.heap.objs.size + 1), H', I3, rfl, q3⟩⟩
    | _ => exact False.elim hq'
theorem PK.imp {X : Cx} {e : List Keyword} {t t' : TA} (h : PK X e t) (i : ∀ σ H Q, t' σ H Q → t σ H Q) : PK X e t' := ⟨fun pos pins s σ H Q I q => h.run pos pins s σ H Q I (i σ H Q q)⟩
theorem rk_nil : PK X [] (LA X.K N Wx aNil) := PK.imp pk_nil fun σ H Q ⟨ρ, ls, hp, l, hr, o⟩ => o ρ H [] (Ex.refl _ _) hr .nil
theorem cons_in {K : PySem.W.Frag} {σ : St} {H : Hp} {Q : List V → Hp → Prop} (h : LA K N Wx (aCons f gs) σ H Q) : LE K N Wx f σ H fun x H1 => LA K N Wx gs σ H1 fun xs H2 => Q (x :: xs) H2 := by
  obtain ⟨ρ, ls, hp, l, hr, o⟩ := h
  refine ⟨ρ, ls, hp, l, hr, ?_⟩
  unfold aCons at o
  cases e1 : f ls hp with
  | ok x h1 =>
    rw [e1] at o
    simp only at o
    intro ρ' H' v ex r rx
    refine ⟨ρ', ls, h1, l.ex ex, r, ?_⟩
    cases e2 : gs ls h1 with
    | ok xs h2 =>
      rw [e2] at o
      intro ρ2 H2 vs ex2 r2 rxs
      exact o ρ2 H2 _ (ex.trans ex2) r2 (.cons (rx.ex ex2) rxs)
    | exc c fs h2 => rw [e2] at o; exact fun ρ2 H2 d ex2 r2 z => o ρ2 H2 d (ex.trans ex2) r2 z
    | bad => rw [e2] at o; exact o.elim
  | exc c fs h1 => rw [e1] at o; exact o
  | bad => rw [e1] at o; exact o.elim
theorem rk_cons {nm : Option Str} {kpos : Pos} (ha : PE X e (LE X.K N Wx f)) (hr : PK X kws (LA X.K N Wx gs)) : PK X (⟨nm, e, kpos⟩ :: kws) (LA X.K N Wx (aCons f gs)) := PK.imp (pk_cons ha hr) fun σ H Q h => cons_in h
/-- f(.., k = ..) -/
def eCall (G : List W → List W → Heap → R) (n m : Nat) (gs hs : SEs) : SE := fun ls h => (gs ls h).bind fun xs h1 => (hs ls h1).bind fun ys h2 => if xs.length = n ∧ ys.length = m then G xs ys h2 else .bad
theorem args_in {K : PySem.W.Frag} {σ : St} {H : Hp} {Q : VK} {G : List W → List W → Heap → R} {n m : Nat} {ρ : List Addr} {ls : Ls} {hp : Heap} (l : LR K ρ H ls σ) (hr : HR K N ρ hp H)
    (o : Out K N ρ H ((gs ls hp).bind fun xs h1 => (hs ls h1).bind fun ys h2 => if xs.length = n ∧ ys.length = m then G xs ys h2 else .bad) Q fun c d H' => Wx c d σ H') :
    LA K N Wx gs σ H fun vs H1 => LA K N Wx hs σ H1 fun zs H2 => ∃ ρ2 h xs ys, Ex ρ ρ2 H H2 ∧ HR K N ρ2 h H2 ∧ VRs K ρ2 H2 xs vs ∧ VRs K ρ2 H2 ys zs ∧ xs.length = n ∧ ys.length = m ∧ Out K N ρ2 H2 (G xs ys h) Q (fun c d H' => Wx c d σ H') := by
  refine ⟨ρ, ls, hp, l, hr, ?_⟩
  cases e1 : gs ls hp with
  | ok xs h1 =>
    rw [e1] at o
    simp only [Rs.bind_ok] at o
    intro ρ1 H1 vs ex1 r1 rx
    refine ⟨ρ1, ls, h1, l.ex ex1, r1, ?_⟩
    cases e2 : hs ls h1 with
    | ok ys h2 =>
      rw [e2] at o
      simp only [Rs.bind_ok] at o
      intro ρ2 H2 zs ex2 r2 ry
      split at o
      · rename_i z
        exact ⟨ρ2, h2, xs, ys, ex1.trans ex2, r2, rx.ex ex2, ry, z.1, z.2, Out.ex (ex1.trans ex2) o⟩
      · exact o.elim
    | exc c fs h2 => rw [e2] at o; exact fun ρ2 H2 d ex2 r2 z => o ρ2 H2 d (ex1.trans ex2) r2 z
    | bad => rw [e2] at o; exact o.elim
  | exc c fs h1 => rw [e1] at o; exact o
  | bad => rw [e1] at o; exact o.elim
theorem call_in {K : PySem.W.Frag} {σ : St} {H : Hp} {Q : VK} {G : List W → List W → Heap → R} {n m : Nat} (h : LE K N Wx (eCall G n m gs hs) σ H Q) :
    LA K N Wx gs σ H fun vs H1 => LA K N Wx hs σ H1 fun zs H2 => ∃ ρ h xs ys, HR K N ρ h H2 ∧ VRs K ρ H2 xs vs ∧ VRs K ρ H2 ys zs ∧ xs.length = n ∧ ys.length = m ∧ Out K N ρ H2 (G xs ys h) Q (fun c d H' => Wx c d σ H') := by
  obtain ⟨ρ, ls, hp, l, hr, o⟩ := h
  obtain ⟨ρ', ls', hp', l', hr', o'⟩ := args_in l hr o
  refine ⟨ρ', ls', hp', l', hr', ?_⟩
  cases e1 : gs ls' hp' with
  | ok xs h1 =>
    rw [e1] at o'
    intro ρ1 H1 vs ex1 r1 rx
    obtain ⟨ρa, la, ha, l1, r2, oa⟩ := o' ρ1 H1 vs ex1 r1 rx
    refine ⟨ρa, la, ha, l1, r2, ?_⟩
    cases e2 : hs la ha with
    | ok ys h2 =>
      rw [e2] at oa
      intro ρ2 H2 zs ex2 r3 ry
      obtain ⟨ρ3, h3, xs3, ys3, _, z⟩ := oa ρ2 H2 zs ex2 r3 ry
      exact ⟨ρ3, h3, xs3, ys3, z⟩
    | exc c fs h2 => rw [e2] at oa; exact oa
    | bad => rw [e2] at oa; exact oa.elim
  | exc c fs h1 => rw [e1] at o'; exact o'
  | bad => rw [e1] at o'; exact o'.elim
theorem r_call {x : Str} {fv : Value} {G : List W → List W → Heap → R} (cs : CalS X N Wx fv n ks G) (hg : Gl X x) (hm : X.mg x = some fv) (hk : PySem.W.keepIn X.K fv = true)
    (ha : PA X (e :: es) (LA X.K N Wx gs)) (hkw : PK X kws (LA X.K N Wx hs)) (hall : (backToKw pos (keywordEach kws X.env)).all (·.1.isSome) = true := by rfl) (hks : (backToKw pos (keywordEach kws X.env)).filterMap (·.1) = ks := by rfl)
    (hdb : (x == ("__debug__" : Str)) = false := by decide) (he : starEach (e :: es) X.env = (false, eval e X.env) :: starEach es X.env := by rfl)
    (hpl : ((backTo pos (starEach (e :: es) X.env)).any (·.1) || (backToKw pos (keywordEach kws X.env)).any (·.1.isNone)) = false := by rfl) : PE X (.Call (.Name x p) (e :: es) kws pos) (LE X.K N Wx (eCall G n ks.length gs hs)) := by
  refine ⟨fun pins s σ H Q I h => ?_⟩
  refine wpAny_Call_Name_kw (ld_glob I hg hm ?_ hdb)
  refine PySem.W.callWith_KW (h₀ := X.base) I.ok.mod.kin hk hall (thn (ha.run pos pins s σ H _ I (call_in h)) fun us s1 ⟨vs, H1, I1, r, q⟩ => ?_) hpl he
  refine thn (hkw.run pos pins s1 σ H1 _ I1 q) fun ws s2 ⟨zs, H2, I2, rz, ρ, hp, xs, ys, h1, h2, h3, h4, h5, h6⟩ => ⟨I2.kIn, ?_⟩
  rw [hks]
  exact cs pins s2 σ H2 us ws vs zs xs ys ρ hp Q I2 r rz h2 h3 (by rw [← r.length, ← h2.length, h4]) (by rw [← rz.length, ← h3.length, h5]) h1 h6
theorem r_call0 {x : Str} {fv : Value} {G : List W → List W → Heap → R} (cs : CalS X N Wx fv 0 ks G) (hg : Gl X x) (hm : X.mg x = some fv) (hk : PySem.W.keepIn X.K fv = true)
    (hkw : PK X kws (LA X.K N Wx hs)) (hall : (backToKw pos (keywordEach kws X.env)).all (·.1.isSome) = true := by rfl) (hks : (backToKw pos (keywordEach kws X.env)).filterMap (·.1) = ks := by rfl)
    (hdb : (x == ("__debug__" : Str)) = false := by decide) (hpl : ((backTo pos (starEach [] X.env)).any (·.1) || (backToKw pos (keywordEach kws X.env)).any (·.1.isNone)) = false := by rfl) : PE X (.Call (.Name x p) [] kws pos) (LE X.K N Wx (eCall G 0 ks.length aNil hs)) := by
  refine ⟨fun pins s σ H Q I h => ?_⟩
  refine wpAny_Call_Name_kw (ld_glob I hg hm ?_ hdb)
  refine PySem.W.callWith_KW0 (h₀ := X.base) I.ok.mod.kin hk hall ?_ hpl
  obtain ⟨ρ0, ls0, hp0, l0, hr0, o0⟩ := call_in h
  refine thn (hkw.run pos pins s σ H _ I (o0 ρ0 H [] (Ex.refl _ _) hr0 .nil)) fun ws s2 ⟨zs, H2, I2, rz, ρ, hp, xs, ys, h1, h2, h3, h4, h5, h6⟩ => ⟨I2.kIn, ?_⟩
  rw [hks]
  exact cs pins s2 σ H2 [] ws [] zs xs ys ρ hp Q I2 .nil rz h2 h3 rfl (by rw [← rz.length, ← h3.length, h5]) h1 h6
/-- o.m(..): by the object's class -/
def eMeth (mt : Nat → Option (List W → List W → Heap → R)) (mi n m : Nat) (f : SE) (gs hs : SEs) : SE := fun ls h => (f ls h).bind fun x h0 => match x with
  | .ref j => match h0.get j with
    | some (.ins c fs) => match mt c with
      | some G => if fGet fs mi = none then (gs ls h0).bind fun xs h1 => (hs ls h1).bind fun ys h2 => if xs.length = n ∧ ys.length = m then G (.ref j :: xs) ys h2 else .bad else .bad
      | none => .bad
    | _ => .bad
  | _ => .bad
structure MtOk (X : Cx) (N : Nm) (Wx : WX) (mi : Nat) (n : Nat) (ks : List Str) (c : Nat) (G : List W → List W → Heap → R) : Prop where
  cls : Cls X.K (N.ca c)
  mth : ∃ g, Meth X.K (N.ca c) (N.an mi) g ∧ CalS X N Wx (.ref g) (n + 1) ks G
theorem meth_in {K : PySem.W.Frag} {σ : St} {H : Hp} {Q : VK} {mt : Nat → Option (List W → List W → Heap → R)} {mi n m : Nat} (h : LE K N Wx (eMeth mt mi n m f gs hs) σ H Q) :
    LE K N Wx f σ H fun x H0 => ∃ a c dx fs G ρ ls h j, x = .ref a ∧ H0 a = some (.ins (N.ca c) dx fs) ∧ fs.lookup (N.an mi) = none ∧ mt c = some G ∧ ρ[j]? = some a ∧ LR K ρ H0 ls σ ∧ HR K N ρ h H0 ∧
      Out K N ρ H0 ((gs ls h).bind fun xs h1 => (hs ls h1).bind fun ys h2 => if xs.length = n ∧ ys.length = m then G (.ref j :: xs) ys h2 else .bad) Q fun c d H' => Wx c d σ H' := by
  obtain ⟨ρ, ls, hp, l, hr, o⟩ := h
  refine ⟨ρ, ls, hp, l, hr, (Out.bind o).mono (fun v H1 z => ?_) fun _ _ _ z => z⟩
  obtain ⟨ρ1, x, h1, e1, hr1, rx, o1⟩ := z
  cases rx with
  | @ref j a q =>
    simp only at o1
    split at o1
    · rename_i c fs eg
      split at o1
      · rename_i G em
        split at o1
        · rename_i en
          obtain ⟨dx, fs', g1, g2, g3⟩ := ins_of hr1 eg q
          exact ⟨a, c, dx, fs', G, ρ1, ls, h1, j, rfl, g1, fGet_none g2 en, em, q, l.ex e1, hr1, o1⟩
        · exact o1.elim
      · exact o1.elim
    · exact o1.elim
  | _ => exact o1.elim
theorem r_meth {x : Str} {mi : Nat} {mt : Nat → Option (List W → List W → Heap → R)} {pl : Sem Bool} (hm : ∀ c G, mt c = some G → MtOk X N Wx mi n ks c G) (hx : N.an mi = x) (ho : PE X o (LE X.K N Wx f))
    (ha : PA X (e :: es) (LA X.K N Wx gs)) (hkw : PK X kws (LA X.K N Wx hs)) (hall : (backToKw pos (keywordEach kws X.env)).all (·.1.isSome) = true := by rfl) (hks : (backToKw pos (keywordEach kws X.env)).filterMap (·.1) = ks := by rfl)
    (he : starEach (e :: es) X.env = (false, eval e X.env) :: starEach es X.env := by rfl)
    (hpl : ((backTo pos (starEach (e :: es) X.env)).any (·.1) || (backToKw pos (keywordEach kws X.env)).any (·.1.isNone)) = false := by rfl)
    (ht : eval (.Call (.Attribute o x apos) (e :: es) kws pos) X.env = (do
      let ov ← eval o X.env
      standAt apos.atName
      let (f, first) ← holding [ov] (getMethod ov x pl)
      callWith pos f first (backTo pos (starEach (e :: es) X.env)) (backToKw pos (keywordEach kws X.env))) := by rfl) :
    PE X (.Call (.Attribute o x apos) (e :: es) kws pos) (LE X.K N Wx (eMeth mt mi n ks.length f gs hs)) := by
  subst hx
  refine ⟨fun pins s σ H Q I h => ?_⟩
  refine PySem.W.methodCall_KW (pl := pl) (thn (ho.run pins s σ H _ I (meth_in h)) fun u s1 ⟨v, H1, I1, rv, a, c, dx, fs, G, ρ, ls, hp, j, ev, ea, lk, em, q, l, hr, o⟩ => ?_) ht
  subst ev
  obtain rfl : u = Value.ref a := rv
  obtain ⟨g, hg, cs⟩ := (hm c G em).mth
  refine getmeth_ok I1 ea (hm c G em).cls hg lk ?_
  refine PySem.W.callWith_KW (first := [.ref a]) (h₀ := X.base) I.ok.mod.kin hg.kp hall (thn (ha.run pos pins s1 σ H1 _ I1 (args_in l hr o)) fun us s2 ⟨vs, H2, I2, r, q2⟩ => ?_) hpl he
  refine thn (hkw.run pos pins s2 σ H2 _ I2 q2) fun ws s3 ⟨zs, H3, I3, rz, ρ3, h3, xs, ys, z0, z1, z2, z3, z4, z5, z6⟩ => ⟨I3.kIn, ?_⟩
  rw [hks]
  exact cs pins s3 σ H3 (.ref a :: us) ws (.ref a :: vs) zs (.ref j :: xs) ys ρ3 h3 Q I3 (.cons rfl r) rz (.cons (.ref (pre_get z0.pre q)) z2) z3 (by rw [List.length_cons, ← r.length, ← z2.length, z4]) (by rw [← rz.length, ← z3.length, z5]) z1 z6
theorem r_meth0 {x : Str} {mi : Nat} {mt : Nat → Option (List W → List W → Heap → R)} {pl : Sem Bool} (hm : ∀ c G, mt c = some G → MtOk X N Wx mi 0 [] c G) (hx : N.an mi = x) (ho : PE X o (LE X.K N Wx f))
    (ht : eval (.Call (.Attribute o x apos) [] [] pos) X.env = (do
      let ov ← eval o X.env
      standAt apos.atName
      let (f, first) ← holding [ov] (getMethod ov x pl)
      callWith pos f first (backTo pos (starEach [] X.env)) (backToKw pos (keywordEach [] X.env))) := by rfl) :
    PE X (.Call (.Attribute o x apos) [] [] pos) (LE X.K N Wx (eMeth mt mi 0 0 f aNil aNil)) := by
  subst hx
  refine ⟨fun pins s σ H Q I h => ?_⟩
  refine PySem.W.methodCall_KW (pl := pl) (thn (ho.run pins s σ H _ I (meth_in h)) fun u s1 ⟨v, H1, I1, rv, a, c, dx, fs, G, ρ, ls, hp, j, ev, ea, lk, em, q, l, hr, o⟩ => ?_) ht
  subst ev
  obtain rfl : u = Value.ref a := rv
  obtain ⟨g, hg, cs⟩ := (hm c G em).mth
  refine getmeth_ok I1 ea (hm c G em).cls hg lk ?_
  exact PySem.W.callWith_K0 (first := [.ref a]) I1.kIn hg.kp (cs pins s1 σ H1 [.ref a] [] [.ref a] [] [.ref j] [] ρ hp Q I1 (.cons rfl .nil) .nil (.cons (.ref q) .nil) .nil rfl rfl hr o)
end
end Ev
set_option maxRecDepth 100000
/-! EvDef: defs, their contracts, the law's end. -/
namespace Ev
open PySem L2 PySem.Spec PyProof.Rows
/-- a def as a function -/
def fnOf (n m : Nat) (s : SS) : List W → Heap → R := fun ws h => if ws.length = n then match s (ws.map some ++ List.replicate (m - n) none) h with
  | .nx _ h' => .ok .non h'
  | .rt w h' => .ok w h'
  | .exc c fs _ h' => .exc c fs h'
  | _ => .bad
  else .bad
theorem lr_start {K : PySem.W.Frag} {ρ : List Addr} {H : Hp} : ∀ {ws : List W} {vs : List V} (m : Nat), VRs K ρ H ws vs → LR K ρ H (ws.map some ++ List.replicate m none) (vs.map some ++ List.replicate m none)
  | [], [], m, .nil => ⟨by simp, fun i w e => by
      rw [List.map_nil, List.nil_append, List.getElem?_replicate] at e
      split at e <;> cases e⟩
  | w :: ws, v :: vs, m, .cons q r => by
    obtain ⟨h1, h2⟩ := lr_start m r
    refine ⟨by simpa using h1, fun i x e => ?_⟩
    cases i with
    | zero => simp at e; subst e; exact ⟨v, by simp, q⟩
    | succ i => simpa using h2 i x (by simpa using e)
section
variable {P : Program} {w : World} {K : PySem.W.Frag} {mg : Str → Option Value} {base : PySem.Heap} {x qual : Str} {params : Arguments} {body : List Stmt} {scope : Scope} {dvs : List V} {kws : List (Str × V)} {f : Addr} {fd : FuncData} {N ps : List Str} {k : Nat} {Nn : Nm} {s : SS}
theorem fn_in {σ0 : List V} {H : Hp} {Q : VK} {E : XK} (hl : ps.length ≤ N.length) (h : LSp K Nn (fnOf ps.length N.length s) σ0 H Q E) : LS K Nn (fun c d _ H' => E c d H') s { nx := fun _ H' => Q .non H', rt := Q } (L2.start N σ0) H := by
  obtain ⟨ρ, ws, h, r, hr, o⟩ := h
  unfold fnOf at o
  split at o
  · rename_i hn
    have hl2 : σ0.length = ps.length := by rw [← r.length, hn]
    have l := lr_start (N.length - ps.length) r
    refine ⟨ρ, _, h, by rw [show L2.start N σ0 = σ0.map some ++ List.replicate (N.length - ps.length) none by unfold L2.start; rw [hl2]]; exact l, hr, ?_⟩
    cases e : s (ws.map some ++ List.replicate (N.length - ps.length) none) h with
    | nx ls h' => rw [e] at o; exact fun ρ' σ' H' ex _ r' => o ρ' H' .non ex r' .non
    | rt w h' => rw [e] at o; exact o
    | bk => rw [e] at o; exact o.elim
    | ct => rw [e] at o; exact o.elim
    | exc c fs ls h' => rw [e] at o; exact fun ρ' σ' H' d ex _ r' x' => o ρ' H' d ex r' x'
    | bad => rw [e] at o; exact o.elim
  · exact o.elim
theorem fn_len {σ0 : List V} {H : Hp} {Q : VK} {E : XK} (h : LSp K Nn (fnOf ps.length N.length s) σ0 H Q E) : σ0.length = ps.length := by
  obtain ⟨ρ, ws, h, r, hr, o⟩ := h
  unfold fnOf at o
  split at o
  · rename_i hn; rw [← r.length, hn]
  · exact o.elim
/-- the body of a def, at each entry -/
def BodyOk (P : Program) (w : World) (K : PySem.W.Frag) (mg : Str → Option Value) (base : PySem.Heap) (Nn : Nm) (N : List Str) (qual : Str) (scope : Scope) (body : List Stmt) (f : Addr) (k : Nat) (s : SS) : Prop :=
  ∀ (cdv : Value) (A : Around) (outer : List Env) (st : Shared) (H : Hp) (E : XK), Room k (A.deeper (envOfC qual scope st.heap.objs.size f cdv)) → A.guards = some [] → 
    PSs (cxOf (L2.CX P w) P w K mg base N qual scope f cdv A outer st H E) body (LS K Nn (fun c d _ H' => E c d H') s)
theorem d_fn (F : FunD K x qual params body scope dvs kws f fd) (S : FnScope N ps scope) (hb : BodyOk P w K mg base Nn N qual scope body f k s) : FG P w K mg base (k + 1) f fd ps (LSp K Nn (fnOf ps.length N.length s)) := by
  obtain ⟨oc, od, dV, kV, doc, pm, an, cdv, ct, osl, rfl, lk, hcd, _, _⟩ := F.ex
  have hpl : ps.length ≤ N.length := by have := congrArg List.length S.pre; rw [List.length_take] at this; omega
  refine ⟨fun vs H Q E h => fn_len h, fun A outer st H args us vs Q E hr hg e0 hB r hsp => ?_⟩
  have KX : K.In st.heap := e0.mod.kin.keeps fun b o e => (e0.bs b o e).1
  have lim : st.heap.NoLimit := e0.mod.nolimit.keeps fun b o e => (e0.bs b o e).1
  have hkind : ∀ y ∈ ps.zip us, scope.names.lookup y.1 = some .local ∨ (scope.names.lookup y.1 = some .cell ∧ ((cellsFrom (st.heap.objs.size + 1) scope.names []).lookup y.1).isSome = true) := fun ⟨n, v⟩ hy =>
    (S.par n (List.of_mem_zip hy).1).elim .inl fun q => .inr ⟨q, PySem.W.cellsFrom_some _ _ _ (.inl q)⟩
  refine codeAny_call_function hr.depth (KX _ _ lk) rfl S.co S.gen rfl (PySem.W.codeRec_of KX hcd) (hB _ _ _ _ (wpAny_newFunctionEnv_cells S.kind hkind fun env he s1 z => ?_))
  subst he
  refine ⟨lim.keeps z.toInCall.keep, codeAny_func ?_⟩
  have I : Inv (cxOf (L2.CX P w) P w K mg base N qual scope f cdv A outer st H E) [] (L2.start N vs) H s1 := inv_start S hr.hd e0 (fn_len hsp) r z
  refine wpAny_mono ((hb cdv A outer st H E (hr.deeper _) hg).run [] s1 _ H _ I (fn_in (Q := Q) hpl hsp)) (fun fl s' hs => ?_) fun e s' hs => hs
  have fin : ∀ {σ' : L2.St} {H' : Hp} {v : V} {u : Value}, Inv (cxOf (L2.CX P w) P w K mg base N qual scope f cdv A outer st H E) [] σ' H' s' → RelV v u → Q v H' → CE outer P w H st Q u s' :=
    fun {σ' H' v u} J rv q => ⟨v, H', J.os, J.bare, J.base, J.hok, rv, q⟩
  match fl, hs with
  | .ret u, ⟨v, σ', H', J, rv, q⟩ => exact fin J rv q
  | .next, ⟨σ', H', J, q⟩ => exact fin (v := V.non) (u := Value.none) J rfl q
  | .brk, ⟨_, _, _, q⟩ => exact False.elim q
  | .cont, ⟨_, _, _, q⟩ => exact False.elim q
end
end Ev
set_option maxRecDepth 100000
/-! EvEnd: the law's promise at its entry; the hook that reads facts. -/
namespace Ev
open PySem L2 PySem.Spec PyProof.Rows

/-- the heap in which nothing stands -/
def h0 : Heap := ⟨0, fun _ => none⟩
def scriptW (ns : List Int) : W := .fl (ns.map W.int)
theorem vrs_ints {K : PySem.W.Frag} {ρ : List Addr} {H : Hp} : ∀ ns : List Int, VRs K ρ H (ns.map W.int) (ns.map V.int)
  | [] => .nil
  | n :: ns => .cons (.int n) (vrs_ints ns)
theorem hr_zero {K : PySem.W.Frag} {N : Nm} {H : Hp} : HR K N [] h0 H := ⟨rfl, List.nodup_nil, fun _ m => (nomatch m), fun _ _ e => by cases e⟩

theorem law_ev {P : Program} {w : World} {K : PySem.W.Frag} {Nn : Nm} {mg mb : Str → Option Value} {k : Nat} {fa a : Addr} {fd : FuncData} {x : Str} {G : List W → Heap → R} {s₁ : Shared} {vs : List Value} {ns : List Int} {h' : Heap}
    (KX : K.In s₁.heap) (hns : s₁.heap.Ns mainGlobals mg) (hb : s₁.heap.Ns builtinsNs mb) (hbb : ∀ x : Str, x ≠ "__name__" → mb x = bootBuiltins x) (hlim : s₁.heap.NoLimit) (hg : s₁.gens = #[])
    (ha : s₁.heap.get? a = some { cls := .type "list", data := .seq vs.toArray }) (hi : IntsAre vs ns) (hl : ns.length ≤ sizeLine) (hr : Room k callerA)
    (F : ∀ base : PySem.Heap, K.In base → base.Ns mainGlobals mg → FG P w K mg base k fa fd [x] (LSp K Nn G)) (hbind : ∀ (s : Shared) (u : Value), BindsTo s fd ⟨[u], []⟩ [(x, u)])
    (hG : G [scriptW ns] h0 = .ok (.bl true) h') :
    codeAny (model P w) callerA (.call (.ref fa) ⟨[.ref a], []⟩) (fun r s' => r = .ok (.ret (.bool true)) ∧ OldK s₁.heap s'.heap ∧ s'.os = s₁.os ∧ AllBare s'.gens) s₁ := by
  have rv := vals_ints hi
  have lenV := hi.length
  have bigV : (vs.toArray).size ≤ sizeLine := by rw [List.size_toArray, lenV]; exact hl
  -- the script: the module's own, or locked
  obtain ⟨own, hown⟩ : ∃ b : Bool, b = (K.lookup a).isSome := ⟨_, rfl⟩
  let H : Hp := fun b => if b = a ∧ own = false then some (.frz { cls := .type "list", data := .seq vs.toArray } (.lst (ns.map V.int))) else none
  have Hs : ∀ {b : Addr} {u : HO}, H b = some u → b = a ∧ own = false ∧ u = .frz { cls := .type "list", data := .seq vs.toArray } (.lst (ns.map V.int)) := fun {b u} e => by
    by_cases c : b = a ∧ own = false
    · have e2 := (if_pos c).symm.trans e
      exact ⟨c.1, c.2, (Option.some.inj e2).symm⟩
    · cases (if_neg c).symm.trans e
  have Hn : ∀ {b : Addr}, (b = a → own = false → False) → H b = none := fun c => if_neg fun z => c z.1 z.2
  have hS : SqF K H a (ns.map V.int) := by
    cases e : K.lookup a with
    | some o =>
      have q := KX a o e
      rw [ha] at q; cases q
      exact .inr ⟨_, vs.toArray, _, e, rfl, rfl, rfl, bigV, by simpa using rv⟩
    | none => exact .inl ⟨_, if_pos ⟨rfl, by rw [hown, e]; rfl⟩⟩
  have ok0 : HOk P w H s₁.heap := fun b u e => by
    obtain ⟨rfl, _, rfl⟩ := Hs e
    exact ⟨ha, by rw [List.length_map]; exact hl, vs, _, rv, ha⟩
  have notD : ∀ {b : Addr} {o : Obj} {es : Array DictEntry} {ep : Nat}, s₁.heap.get? b = some o → o.data = .dict es ep → H b = none := fun {b o es ep} e d => Hn fun z _ => by
    subst z
    rw [ha] at e; cases e; cases d
  have up : ∀ {b : Addr} {m : Str → Option Value}, s₁.heap.Ns b m → (hidT s₁.heap H).Ns b m := fun ⟨o, es, ep, e, d, r⟩ => ⟨o, es, ep, hidT_get e (notD e d), d, r⟩
  have KB : K.In (hidT s₁.heap H) := fun b o e => hidT_get (KX b o e) (Hn fun z c => by subst z; rw [hown, e] at c; cases c)
  have M : Mod K mg (hidT s₁.heap H) := ⟨KB, up hns, ⟨mb, up hb, hbb⟩, let ⟨mc, h1, h2⟩ := hlim; ⟨mc, up h1, h2⟩⟩
  have e0 : Env0 P w K mg (hidT s₁.heap H) callerA [] s₁ H := ⟨rfl, M, fun b o e => of_hidT e, Nat.le_of_eq (hidT_size _ _), trivial, fun b hb => (nomatch (show b ∈ ([] : List Addr) from hb)), ok0, .of_eq hg⟩
  have sp : LSp K Nn G [.ref a] H (fun v _ => v = .bl true) (fun _ _ _ => False) := by
    refine ⟨[], [scriptW ns], h0, .cons (.fl hS (vrs_ints ns)) .nil, hr_zero, ?_⟩
    rw [hG]
    intro ρ' H' v _ _ r
    cases r with | bl => rfl
  refine codeAny_mono ((F _ KB (up hns)).run callerA [] s₁ H ⟨[.ref a], []⟩ [.ref a] [.ref a] _ _ hr rfl e0 (hbind s₁ (.ref a)) (.cons rfl .nil) sp) fun r s' q => ?_
  match r, q with
  | .error e, q =>
    obtain ⟨_, _, _, _, _, _, _, _, _, _, _, _, q⟩ := q
    exact q.elim
  | .ok (.ret u), ⟨v, H', os, bare, un, hok', r', q⟩ =>
    have q' : v = .bl true := q
    subst q'
    obtain rfl : u = Value.bool true := r'
    refine ⟨rfl, OldK.of_keep fun b o e => ?_, os, bare⟩
    by_cases c : H b = none
    · exact un.keep b o e c (fun z => nomatch (show b ∈ ([] : List Addr) from z)) (fun z => nomatch z)
    · obtain ⟨u, hu⟩ := Option.ne_none_iff_exists'.mp c
      obtain ⟨_, _, rfl⟩ := Hs hu
      obtain ⟨e2, _⟩ := hok' b _ (un.frzs b _ _ hu)
      obtain ⟨e1, _⟩ := ok0 b _ hu
      rw [e] at e1; cases e1
      exact e2

/-- the law, from the head's facts -/
theorem walk_ev {l : PySem.W.OpenLaw} {n k : Nat} {q : Program} {loose : List Str} {XP : (Str → Option Value) → PySem.Heap → Prop} {YP : World → PySem.Heap → Prop} {d : DefRec} {x : Str} {G : List W → Heap → R}
    (hn : l.most = some n) (hn2 : n ≤ sizeLine) (hdf : d.params.defaults = []) (hr : Room k callerA)
    (hG : ∀ ns : List Int, ns.length ≤ n → ∃ h', G [scriptW ns] h0 = .ok (.bl true) h')
    (F : ∀ (w : World) (mg : Str → Option Value) (fa : Addr) (h : PySem.Heap), YP w h → h.Ns mainGlobals mg → mg d.name = some (.ref fa) →
      ∃ (K : PySem.W.Frag) (fd : FuncData) (Nn : Nm), K.In h ∧ (∀ (s : Shared) (u : Value), BindsTo s fd ⟨[u], []⟩ [(x, u)]) ∧
        ∀ base : PySem.Heap, K.In base → base.Ns mainGlobals mg → FG l.prog w K mg base k fa fd [x] (LSp K Nn G)) :
    PySem.W.WalkO q loose XP YP l.row.toRowW d [] (fun f vs => PySem.call f vs) := by
  refine Att.attach_call hn hdf fun w s₀ s₁ mg mb fa o pm cd doc a vs ns Gd Y ho hd hcd hmg hobj hints hlen hg => ?_
  obtain ⟨K, fd, Nn, KX, hb, hF⟩ := F w mg fa _ Y Gd.T.g hmg
  obtain ⟨h', hG'⟩ := hG ns hlen
  exact law_ev KX Gd.T.g Gd.T.b Gd.T.builtins Gd.T.nolimit hg hobj hints (Nat.le_trans hlen hn2) hr hF hb hG'

/-! ### the hook: any check of the written part, and the defs -/
open He in
def obsE (chk : PySem.W.Frag → Bool) (fn : List DefD) (K : PySem.W.Frag) : AlD := (chk K && fn.all fun d => d.ok K, fn.map fun d => fnW K d.at_)
open He in
def obsEG (n : Nat) (chk : PySem.W.Frag → Bool) (fn : List DefD) (g : Addr → Option Obj) : AlD := obsE chk fn (frG g (asD g n))
open He in
def SaysE (chk : PySem.W.Frag → Bool) (fn : List DefD) (K : PySem.W.Frag) : Prop := obsE chk fn K = valD fn
open He in
def hookE (n : Nat) (chk : PySem.W.Frag → Bool) (fn : List DefD) : PySem.W.Hook where
  α := AlD
  obs := fun s => obsEG n chk fn s.heap.get?
  val := fun _ => valD fn
  says := fun _ h => ∃ K : PySem.W.Frag, K.In h ∧ SaysE chk fn K
  of := fun _ _ e => ⟨_, frG_in, e⟩
  keeps := fun _ _ _ ⟨K, hK, c⟩ k => ⟨K, PySem.W.Frag.In.keeps hK k, c⟩
open He in
theorem obsEG_eq {n : Nat} {ck : PySem.W.Frag → Bool} {fn : List DefD} {g : Addr → Option Obj} {s : Shared} (h : ∀ a, g a = s.heap.get? a) : obsEG n chk fn g = (hookE n chk fn).obs s := by
  have e : g = s.heap.get? := funext h
  rw [e] <;> rfl
section
open He
variable {ck : PySem.W.Frag → Bool} {fn : List DefD} {K : PySem.W.Frag}
theorem SaysE.chk (c : SaysE ck fn K) : ck K = true := (ba (show (ck K && fn.all fun d => d.ok K) = true from congrArg (fun z : AlD => z.1) c)).1
theorem SaysE.def_ (c : SaysE ck fn K) (i : Nat) {d : DefD} (h : fn[i]? = some d := by rfl) : ∃ fd, FunD K d.name d.qual d.params d.body d.scope (d.dvs K) (d.kws K) (fAd K d.at_) fd := by
  have c2 := (ba (show (ck K && fn.all fun d => d.ok K) = true from congrArg (fun z : AlD => z.1) c)).2
  have e : fn.map (fun d => fnW K d.at_) = fn.map DefD.val := congrArg (fun z : AlD => z.2) c
  have e2 : (fn.map fun d => fnW K d.at_)[i]? = (fn.map DefD.val)[i]? := by rw [e]
  rw [List.getElem?_map, List.getElem?_map, h] at e2
  exact DefD.funD (Option.some.inj e2) (List.all_eq_true.mp c2 d (List.mem_of_getElem? h))
end
end Ev
set_option maxRecDepth 100000
/-! EvBlt: built-in functions and methods, comparisons of any data. -/
namespace Ev
open PySem L2

/-! ### comparisons of texts -/
def wLe2 : W → W → Heap → R
  | .int i, .int j, h => .ok (.bl (decide (i ≤ j))) h
  | .str s, .str t, h => .ok (.bl (!decide (t.cps.toList < s.cps.toList))) h
  | _, _, _ => .bad
def wLt2 : W → W → Heap → R
  | .int i, .int j, h => .ok (.bl (decide (i < j))) h
  | .str s, .str t, h => .ok (.bl (decide (s.cps.toList < t.cps.toList))) h
  | _, _, _ => .bad
def wGe2 : W → W → Heap → R
  | .int i, .int j, h => .ok (.bl (decide (j ≤ i))) h
  | .str s, .str t, h => .ok (.bl (!decide (s.cps.toList < t.cps.toList))) h
  | _, _, _ => .bad
def wGt2 : W → W → Heap → R
  | .int i, .int j, h => .ok (.bl (decide (j < i))) h
  | _, _, _ => .bad
/-! ### data -/
def allO {α : Type} (f : W → Option α) : List W → Option (List α)
  | [] => some []
  | x :: xs => match f x, allO f xs with
    | some d, some ds => some (d :: ds)
    | _, _ => none
/-- a value as data: nesting below n -/
def toD (h : Heap) : Nat → W → Option PyData
  | _, .non => some .none
  | _, .bl b => some (.bool b)
  | _, .int i => some (.int i)
  | _, .str s => some (.str s)
  | n + 1, .tup xs => (allO (toD h n) xs).map .tuple
  | n + 1, .fl xs => (allO (toD h n) xs).map .list
  | n + 1, .ref k => match lstAt h k with
    | some xs => (allO (toD h n) xs).map .list
    | none => none
  | _, _ => none
/-- the list that w is -/
def seqW (h : Heap) : W → Option (List W)
  | .ref n => lstAt h n
  | .fl xs => some xs
  | _ => none
def dataEq (h : Heap) (x y : W) : Option Bool := match toD h 60 x, toD h 60 y with
  | some d, some e => if (SeqAt.shaped d && SeqAt.shaped e) = true then some (PyData.eqv d e) else none
  | _, _ => none
def eqO (h : Heap) (x y : W) : Option Bool := match seqW h x, seqW h y with
  | some xs, some ys => if xs.length = ys.length then dataEq h x y else some false
  | _, _ => dataEq h x y
def wEq (x y : W) (h : Heap) : R := match eqO h x y with
  | some b => .ok (.bl b) h
  | none => .bad
def wNe (x y : W) (h : Heap) : R := match eqO h x y with
  | some b => .ok (.bl (!b)) h
  | none => .bad
/-- x in y -/
def inO (h : Heap) (x y : W) : Option Bool := match x, y with
  | .str s, .str t => some (!(Builtin.Str.occurrences t s 0 t.length 1).isEmpty)
  | x, y => match toD h 60 x, toD h 60 y with
    | some d, some (.list ds) => if (SeqAt.shaped d && SeqAt.shaped (.list ds)) = true then some (ds.any fun z => PyData.eqv z d) else none
    | _, _ => none
def wIn (x y : W) (h : Heap) : R := match inO h x y with
  | some b => .ok (.bl b) h
  | none => .bad
def wNin (x y : W) (h : Heap) : R := match inO h x y with
  | some b => .ok (.bl (!b)) h
  | none => .bad
/-- is: None on the right, bools -/
def isO : W → W → Option Bool
  | x, .non => some (W.eqb x .non)
  | .bl a, .bl b => some (decide (a = b))
  | _, _ => none
def wIs (x y : W) (h : Heap) : R := match isO x y with
  | some b => .ok (.bl b) h
  | none => .bad
def wIsnt (x y : W) (h : Heap) : R := match isO x y with
  | some b => .ok (.bl (!b)) h
  | none => .bad
section
variable {K : PySem.W.Frag} {N : Nm} {ρ : List Addr} {h : Heap} {H : Hp}
theorem all_in {F : W → Option PyData} (ih : ∀ w v d, F w = some d → VR K ρ H w v → Dp K H v d) : ∀ {xs : List W} {ys : List V} {ds : List PyData}, allO F xs = some ds → VRs K ρ H xs ys → DpAll K H ys ds
  | [], [], ds, e, .nil => by simp [allO] at e; subst e; exact .nil
  | x :: xs, y :: ys, ds, e, .cons q r => by
    unfold allO at e
    split at e
    · rename_i d ds' e1 e2
      cases e
      exact .cons (ih _ _ _ e1 q) (all_in ih e2 r)
    · cases e
theorem toD_in (hr : HR K N ρ h H) : ∀ (n : Nat) (w : W) (v : V) (d : PyData), toD h n w = some d → VR K ρ H w v → Dp K H v d
  | 0, w, v, d, e, r => by
    cases r <;> simp [toD] at e <;> subst e
    · exact .non
    · exact .bl _
    · exact .int _
    · exact .str _
  | n + 1, w, v, d, e, r => by
    cases r with
    | non => simp [toD] at e; subst e; exact .non
    | bl b => simp [toD] at e; subst e; exact .bl _
    | int i => simp [toD] at e; subst e; exact .int _
    | str s => simp [toD] at e; subst e; exact .str _
    | tup q r =>
      simp only [toD, Option.map_eq_some_iff] at e
      obtain ⟨ds, e, rfl⟩ := e
      exact .tup q (all_in (toD_in hr n) e r)
    | fl q r =>
      simp only [toD, Option.map_eq_some_iff] at e
      obtain ⟨ds, e, rfl⟩ := e
      exact .lst q.sq (all_in (toD_in hr n) e r)
    | ref q =>
      simp only [toD] at e
      split at e
      · rename_i xs z
        simp only [Option.map_eq_some_iff] at e
        obtain ⟨ds, e, rfl⟩ := e
        obtain ⟨ys, h1, h2⟩ := lst_of hr z q
        exact .lst h1 (all_in (toD_in hr n) e h2)
      · cases e
    | gl => simp [toD] at e
    | ty => simp [toD] at e
theorem seqW_in (hr : HR K N ρ h H) {w : W} {v : V} {xs : List W} (e : seqW h w = some xs) (r : VR K ρ H w v) : ∃ a ys, v = .ref a ∧ SqL K H a ys ∧ VRs K ρ H xs ys := by
  cases r with
  | ref q =>
    obtain ⟨ys, h1, h2⟩ := lst_of hr e q
    exact ⟨_, ys, rfl, h1, h2⟩
  | fl q r =>
    simp [seqW] at e; subst e
    exact ⟨_, _, rfl, q.sq, r⟩
  | _ => cases e
end
/-- x == y -/
def rLens (K : PySem.W.Frag) (b : Bool) : R2 := fun x y H Q => ∃ p q xs ys, x = V.ref p ∧ y = V.ref q ∧ SqL K H p xs ∧ SqL K H q ys ∧ xs.length ≠ ys.length ∧ Q (.bl b) H
section
variable {X : Cx} {N : Nm}
theorem op_eqLens (hu : X.A.units + 64 < cLine) : OpR X (compareOp .Eq) (rLens X.K false) := by
  intro pins s σ H x y v u Q I rx ry h
  obtain ⟨p, q, xs, ys, rfl, rfl, h1, h2, ne, z⟩ := h
  cases (show v = Value.ref p from rx)
  cases (show u = Value.ref q from ry)
  obtain ⟨is, r1, l1, _⟩ := I.list h1
  obtain ⟨js, r2, l2, _⟩ := I.list h2
  refine SeqAt.eq_list_lengthsAt l1.isList l2.isList ?_ (by omega) ⟨.bl false, H, I, rfl, z⟩
  have e1 := r1.length
  have e2 := r2.length
  simp only [List.size_toArray, bne_iff_ne, ne_eq]
  omega
theorem op_neLens (hu : X.A.units + 64 < cLine) : OpR X (compareOp .NotEq) (rLens X.K true) := by
  intro pins s σ H x y v u Q I rx ry h
  obtain ⟨p, q, xs, ys, rfl, rfl, h1, h2, ne, z⟩ := h
  cases (show v = Value.ref p from rx)
  cases (show u = Value.ref q from ry)
  obtain ⟨is, r1, l1, _⟩ := I.list h1
  obtain ⟨js, r2, l2, _⟩ := I.list h2
  refine SeqAt.RcNeAt.lists_lengths l1.isList l2.isList ?_ (by omega) X.prog X.w _ _ ⟨.bl true, H, I, rfl, z⟩
  have e1 := r1.length
  have e2 := r2.length
  simp only [List.size_toArray, bne_iff_ne, ne_eq]
  omega
theorem eq_in {K : PySem.W.Frag} {ρ : List Addr} {h : Heap} {H : Hp} {x y : W} {v u : V} {b : Bool} {Q : Bool → Prop} (hr : HR K N ρ h H) (rx : VR K ρ H x v) (ry : VR K ρ H y u) (e : eqO h x y = some b) (q : Q b) :
    (∃ p q xs ys, v = V.ref p ∧ u = V.ref q ∧ SqL K H p xs ∧ SqL K H q ys ∧ xs.length ≠ ys.length ∧ Q false) ∨ ∃ d e, Dp K H v d ∧ Dp K H u e ∧ SeqAt.shaped d = true ∧ SeqAt.shaped e = true ∧ Q (PyData.eqv d e) := by
  have dat : dataEq h x y = some b → ∃ d e, Dp K H v d ∧ Dp K H u e ∧ SeqAt.shaped d = true ∧ SeqAt.shaped e = true ∧ Q (PyData.eqv d e) := fun e => by
    unfold dataEq at e
    split at e
    · rename_i d f e1 e2
      split at e
      · rename_i z
        cases e
        rw [Bool.and_eq_true] at z
        exact ⟨d, f, toD_in hr _ _ _ _ e1 rx, toD_in hr _ _ _ _ e2 ry, z.1, z.2, q⟩
      · cases e
    · cases e
  unfold eqO at e
  split at e
  · rename_i xs ys e1 e2
    split at e
    · exact .inr (dat e)
    · rename_i ne
      cases e
      obtain ⟨p, ps, rfl, h1, h2⟩ := seqW_in hr e1 rx
      obtain ⟨p', ps', rfl, h1', h2'⟩ := seqW_in hr e2 ry
      exact .inl ⟨p, p', ps, ps', rfl, rfl, h1, h1', by rw [← h2.length, ← h2'.length]; exact ne, q⟩
  · exact .inr (dat e)
theorem ok_eq (hu : X.A.units + 64 < cLine) : OpOk X N (compareOp .Eq) wEq := by
  refine ⟨_, (op_eqLens hu).or (op_eqD hu), fun ρ h H x y v u Q E hr rx ry o => ?_⟩
  unfold wEq at o
  split at o
  · rename_i b e
    exact eq_in (Q := fun b => Q (.bl b) H) hr rx ry e (o.val hr (.bl b))
  · exact o.elim
theorem ok_ne (hu : X.A.units + 64 < cLine) : OpOk X N (compareOp .NotEq) wNe := by
  refine ⟨_, (op_neLens hu).or (op_neD hu), fun ρ h H x y v u Q E hr rx ry o => ?_⟩
  unfold wNe at o
  split at o
  · rename_i b e
    exact eq_in (Q := fun b => Q (.bl (!b)) H) hr rx ry e (o.val hr (.bl _))
  · exact o.elim
theorem in_in {K : PySem.W.Frag} {ρ : List Addr} {h : Heap} {H : Hp} {x y : W} {v u : V} {b : Bool} {Q : Bool → Prop} (hr : HR K N ρ h H) (rx : VR K ρ H x v) (ry : VR K ρ H y u) (e : inO h x y = some b) (q : Q b) :
    (∃ i j, v = .str i ∧ u = .str j ∧ Q (!(Builtin.Str.occurrences j i 0 j.length 1).isEmpty)) ∨ ∃ d ds, Dp K H v d ∧ Dp K H u (.list ds) ∧ SeqAt.shaped d = true ∧ SeqAt.shaped (.list ds) = true ∧ Q (ds.any fun z => PyData.eqv z d) := by
  unfold inO at e
  split at e
  · cases e; cases rx; cases ry; exact .inl ⟨_, _, rfl, rfl, q⟩
  · split at e
    · rename_i d ds e1 e2
      split at e
      · rename_i z
        cases e
        rw [Bool.and_eq_true] at z
        exact .inr ⟨d, ds, toD_in hr _ _ _ _ e1 rx, toD_in hr _ _ _ _ e2 ry, z.1, z.2, q⟩
      · cases e
    · cases e
theorem ok_in (hu : X.A.units + 65 < cLine) : OpOk X N (compareOp .In) wIn := by
  refine ⟨_, op_in_str.or (op_inD hu), fun ρ h H x y v u Q E hr rx ry o => ?_⟩
  unfold wIn at o
  split at o
  · rename_i b e
    exact in_in (Q := fun b => Q (.bl b) H) hr rx ry e (o.val hr (.bl b))
  · exact o.elim
theorem ok_nin (hu : X.A.units + 65 < cLine) : OpOk X N (compareOp .NotIn) wNin := by
  refine ⟨_, op_notin_str.or (op_notInD hu), fun ρ h H x y v u Q E hr rx ry o => ?_⟩
  unfold wNin at o
  split at o
  · rename_i b e
    exact in_in (Q := fun b => Q (.bl (!b)) H) hr rx ry e (o.val hr (.bl _))
  · exact o.elim
theorem is_in {K : PySem.W.Frag} {ρ : List Addr} {H : Hp} {x y : W} {v u : V} {b : Bool} {Q : Bool → Prop} (rx : VR K ρ H x v) (ry : VR K ρ H y u) (e : isO x y = some b) (q : Q b) :
    (u = .non ∧ Q (decide (v = .non))) ∨ ∃ a b : Bool, v = .bl a ∧ u = .bl b ∧ Q (decide (a = b)) := by
  unfold isO at e
  split at e
  · cases e
    cases ry
    refine .inl ⟨rfl, ?_⟩
    cases rx <;> simpa [W.eqb] using q
  · cases e; cases rx; cases ry; exact .inr ⟨_, _, rfl, rfl, q⟩
  · cases e
theorem ok_is : OpOk X N (compareOp .Is) wIs := by
  refine ⟨_, op_isN.or op_isBl, fun ρ h H x y v u Q E hr rx ry o => ?_⟩
  unfold wIs at o
  split at o
  · rename_i b e
    exact is_in (Q := fun b => Q (.bl b) H) rx ry e (o.val hr (.bl b))
  · exact o.elim
theorem ok_isnt : OpOk X N (compareOp .IsNot) wIsnt := by
  refine ⟨_, op_notN.or op_notBl, fun ρ h H x y v u Q E hr rx ry o => ?_⟩
  unfold wIsnt at o
  split at o
  · rename_i b e
    exact is_in (Q := fun b => Q (.bl (!b)) H) rx ry e (o.val hr (.bl _))
  · exact o.elim
theorem op_le_str : OpR X (compareOp .LtE) (fun x y H Q => ∃ i j, x = .str i ∧ y = .str j ∧ Q (.bl (!decide (j.cps.toList < i.cps.toList))) H) := by
  intro pins s σ H x y v u Q I rx ry h
  obtain ⟨i, j, rfl, rfl, q⟩ := h
  obtain ⟨t, rfl⟩ := rx
  obtain ⟨t', rfl⟩ := ry
  exact PySem.P.le_str ⟨.bl _, H, I, rfl, by simpa using q⟩
theorem op_ge_str : OpR X (compareOp .GtE) (fun x y H Q => ∃ i j, x = .str i ∧ y = .str j ∧ Q (.bl (!decide (i.cps.toList < j.cps.toList))) H) := by
  intro pins s σ H x y v u Q I rx ry h
  obtain ⟨i, j, rfl, rfl, q⟩ := h
  obtain ⟨t, rfl⟩ := rx
  obtain ⟨t', rfl⟩ := ry
  exact PySem.P.ge_str ⟨.bl _, H, I, rfl, by simpa using q⟩
theorem ok_le2 : OpOk X N (compareOp .LtE) wLe2 := by
  refine ⟨_, op_le.or op_le_str, fun ρ h H x y v u Q E hr rx ry o => ?_⟩
  cases rx <;> cases ry <;> first | exact o.elim | exact .inl ⟨_, _, rfl, rfl, o.val hr (.bl _)⟩ | exact .inr ⟨_, _, rfl, rfl, o.val hr (.bl _)⟩
theorem ok_lt2 : OpOk X N (compareOp .Lt) wLt2 := by
  refine ⟨_, op_lt.or op_lt_str, fun ρ h H x y v u Q E hr rx ry o => ?_⟩
  cases rx <;> cases ry <;> first | exact o.elim | exact .inl ⟨_, _, rfl, rfl, o.val hr (.bl _)⟩ | exact .inr ⟨_, _, rfl, rfl, o.val hr (.bl _)⟩
theorem ok_ge2 : OpOk X N (compareOp .GtE) wGe2 := by
  refine ⟨_, op_ge.or op_ge_str, fun ρ h H x y v u Q E hr rx ry o => ?_⟩
  cases rx <;> cases ry <;> first | exact o.elim | exact .inl ⟨_, _, rfl, rfl, o.val hr (.bl _)⟩ | exact .inr ⟨_, _, rfl, rfl, o.val hr (.bl _)⟩
theorem ok_gt2 : OpOk X N (compareOp .Gt) wGt2 := by
  refine ⟨_, op_gt, fun ρ h H x y v u Q E hr rx ry o => ?_⟩
  cases rx <;> cases ry <;> first | exact o.elim | exact ⟨_, _, rfl, rfl, o.val hr (.bl _)⟩
end

/-! ### calls of built-ins -/
def CalOk (X : Cx) (N : Nm) (f : Value) (op : List W → Heap → R) : Prop :=
  ∃ r, CallR X f r ∧ ∀ ρ h H ws vs Q E, HR X.K N ρ h H → VRs X.K ρ H ws vs → Out X.K N ρ H (op ws h) Q E → r vs H Q
def eB (op : List W → Heap → R) (gs : SEs) : SE := fun ls h => (gs ls h).bind op
section
variable {X : Cx} {N : Nm} {Wx : WX} {pos p apos : Pos} {e o : PySem.Expr} {es : List PySem.Expr} {f : SE} {gs : SEs} {op : List W → Heap → R} {id T : String} {x name : Str}
theorem b_in {K : PySem.W.Frag} {σ : St} {H : Hp} {Q : VK} {r : List V → Hp → VK → Prop} (h2 : ∀ ρ h H ws vs Q E, HR K N ρ h H → VRs K ρ H ws vs → Out K N ρ H (op ws h) Q E → r vs H Q) (h : LE K N Wx (eB op gs) σ H Q) : tCB r (LA K N Wx gs) σ H Q := by
  obtain ⟨ρ, ls, hp, l, hr, o⟩ := h
  refine ⟨ρ, ls, hp, l, hr, ?_⟩
  unfold eB at o
  cases e1 : gs ls hp with
  | ok xs h1 => rw [e1, Rs.bind_ok] at o; exact fun ρ' H' vs ex r rx => h2 ρ' h1 H' xs vs Q _ r rx (Out.ex ex o)
  | exc c fs h1 => rw [e1] at o; exact o
  | bad => rw [e1] at o; exact o.elim
theorem r_callB (hc : CalOk X N (.builtin id) op) (hg : Gl X x) (hm : X.mg x = none) (hv : bootBuiltins x = some (.builtin id)) (ha : PA X (e :: es) (LA X.K N Wx gs)) (hn : x ≠ "__name__" := by decide) (hdb : (x == ("__debug__" : Str)) = false := by decide)
    (he : starEach (e :: es) X.env = (false, eval e X.env) :: starEach es X.env := by rfl) (hpl : (backTo pos (starEach es X.env)).any (·.1) = false := by rfl) : PE X (.Call (.Name x p) (e :: es) [] pos) (LE X.K N Wx (eB op gs)) := by
  obtain ⟨r, h1, h2⟩ := hc
  exact PE.imp (pe_callB h1 hg hm hv ha hn hdb he hpl) fun σ H Q h => b_in h2 h
theorem r_callTy (hc : CalOk X N (.type T) op) (hg : Gl X x) (hm : X.mg x = none) (hv : bootBuiltins x = some (.type T)) (ha : PA X (e :: es) (LA X.K N Wx gs)) (hn : x ≠ "__name__" := by decide) (hdb : (x == ("__debug__" : Str)) = false := by decide)
    (he : starEach (e :: es) X.env = (false, eval e X.env) :: starEach es X.env := by rfl) (hpl : (backTo pos (starEach es X.env)).any (·.1) = false := by rfl) : PE X (.Call (.Name x p) (e :: es) [] pos) (LE X.K N Wx (eB op gs)) := by
  obtain ⟨r, h1, h2⟩ := hc
  exact PE.imp (pe_callTy h1 hg hm hv ha hn hdb he hpl) fun σ H Q h => b_in h2 h
/-- a built-in type as a value -/
theorem r_ty (hg : Gl X x) (hm : X.mg x = none) (hv : bootBuiltins x = some (.type T)) (hn : x ≠ "__name__" := by decide) (hdb : (x == ("__debug__" : Str)) = false := by decide) : PE X (.Name x pos) (LE X.K N Wx (eW (.ty T))) :=
  r_const (pe_bltn (v := .ty T) hg hm hv rfl hn hdb) fun _ _ => .ty T
/-! methods -/
/-- the built-in type that has w -/
def wTyp (h : Heap) : W → String
  | .str _ => "str"
  | .int _ => "int"
  | .fl _ => "list"
  | .ref n => match h.get n with
    | some (.lst _) => "list"
    | some (.dct _) => "dict"
    | _ => ""
  | _ => ""
theorem typ_in {K : PySem.W.Frag} {ρ : List Addr} {h : Heap} {H : Hp} {w : W} {v : V} {T : String} (hr : HR K N ρ h H) (r : VR K ρ H w v) (e : wTyp h w = T) (nT : T ≠ "") : tyV K T v H := by
  cases r with
  | str s => exact e.symm
  | int i => exact e.symm
  | fl q r => exact .inl ⟨e.symm, _, q.sq⟩
  | ref q =>
    simp only [wTyp] at e
    split at e
    · rename_i xs z
      obtain ⟨ys, h1, _⟩ := lst_mut hr z q
      exact .inl ⟨e.symm, ys, .inl (.inl h1)⟩
    · rename_i kvs z
      obtain ⟨ks, h1, _⟩ := dct_of hr z q
      exact .inr (.inr (.inl ⟨e.symm, .inl ⟨ks, h1⟩⟩))
    · exact (nT e.symm).elim
  | _ => exact (nT e.symm).elim
def BmOk (X : Cx) (N : Nm) (id : String) (op : W → List W → Heap → R) : Prop :=
  ∃ r, MtR X id r ∧ ∀ ρ h H w ws v vs Q E, HR X.K N ρ h H → VR X.K ρ H w v → VRs X.K ρ H ws vs → Out X.K N ρ H (op w ws h) Q E → r v vs H Q
def eBm (T : String) (op : W → List W → Heap → R) (f : SE) (gs : SEs) : SE := fun ls h => (f ls h).bind fun x h1 => if wTyp h1 x = T then (gs ls h1).bind fun xs h2 => op x xs h2 else .bad
variable {bop : W → List W → Heap → R}
theorem r_bm (pa : PlainAttrs T) (slot : Slot T name id) (hty : typeOf (.builtin id) = pure (.type "method_descriptor")) (hm : BmOk X N id bop) (ho : PE X o (LE X.K N Wx f)) (ha : PA X (e :: es) (LA X.K N Wx gs)) (nT : T ≠ "" := by decide)
    (hbase : attributeBase o name X.env (eval o X.env) = eval o X.env := by rfl)
    (hfew : ((backTo pos (starEach (e :: es) X.env)).all (fun x => !x.1) && (backToKw pos (keywordEach [] X.env)).all (fun x => x.1.isSome)
      && decide ((e :: es).length + ([] : List Keyword).length + (if ([] : List Keyword).isEmpty then 0 else 1) < 30)) = true := by rfl)
    (hline : (apos.endLine == pos.line) = true := by rfl) (hs : starEach (e :: es) X.env = (false, eval e X.env) :: starEach es X.env := by rfl) (hplain : (backTo pos (starEach es X.env)).any (·.1) = false := by rfl) :
    PE X (.Call (.Attribute o name apos) (e :: es) [] pos) (LE X.K N Wx (eBm T bop f gs)) := by
  obtain ⟨r, h1, h2⟩ := hm
  refine PE.imp (pe_bm pa slot hty h1 ho ha hbase hfew hline hs hplain) fun σ H Q h => ?_
  obtain ⟨ρ, ls, hp, l, hr, oo⟩ := h
  refine ⟨ρ, ls, hp, l, hr, (Out.bind oo).mono (fun v H1 z => ?_) fun _ _ _ z => z⟩
  obtain ⟨ρ1, x, h3, e1, hr1, rx, o1⟩ := z
  split at o1
  · rename_i et
    refine ⟨typ_in hr1 rx et nT, ρ1, ls, h3, l.ex e1, hr1, ?_⟩
    cases e2 : gs ls h3 with
    | ok xs h4 => rw [e2, Rs.bind_ok] at o1; exact fun ρ' H' vs ex r' rxs => h2 ρ' h4 H' x xs v vs Q _ r' (rx.ex ex) rxs (Out.ex ex o1)
    | exc c fs h4 => rw [e2] at o1; exact o1
    | bad => rw [e2] at o1; exact o1.elim
  · exact o1.elim
theorem r_bm0 (pa : PlainAttrs T) (slot : Slot T name id) (hty : typeOf (.builtin id) = pure (.type "method_descriptor")) (hm : BmOk X N id bop) (ho : PE X o (LE X.K N Wx f)) (nT : T ≠ "" := by decide)
    (hbase : attributeBase o name X.env (eval o X.env) = eval o X.env := by rfl) (hline : (apos.endLine == pos.line) = true := by rfl) :
    PE X (.Call (.Attribute o name apos) [] [] pos) (LE X.K N Wx (eBm T bop f aNil)) := by
  obtain ⟨r, h1, h2⟩ := hm
  refine PE.imp (pe_bm0 pa slot hty h1 ho hbase hline) fun σ H Q h => ?_
  obtain ⟨ρ, ls, hp, l, hr, oo⟩ := h
  refine ⟨ρ, ls, hp, l, hr, (Out.bind oo).mono (fun v H1 z => ?_) fun _ _ _ z => z⟩
  obtain ⟨ρ1, x, h3, e1, hr1, rx, o1⟩ := z
  split at o1
  · rename_i et
    exact ⟨typ_in hr1 rx et nT, h2 ρ1 h3 H1 x [] v [] Q _ hr1 rx .nil o1⟩
  · exact o1.elim
end
end Ev
set_option maxRecDepth 100000
/-! EvBlt2: what the built-ins do. -/
namespace Ev
open PySem L2
/-- len -/
def bLen : List W → Heap → R
  | [.str s], h => if s.length ≤ sizeLine then .ok (.int s.length) h else .bad
  | [.tup xs], h => .ok (.int xs.length) h
  | [w], h => match seqW h w with
    | some xs => .ok (.int xs.length) h
    | none => .bad
  | _, _ => .bad
def bMax2 : List W → Heap → R
  | [.int i, .int j], h => .ok (.int (if j > i then j else i)) h
  | _, _ => .bad
def bMin2 : List W → Heap → R
  | [.int i, .int j], h => .ok (.int (if j < i then j else i)) h
  | _, _ => .bad
def bOrd : List W → Heap → R
  | [.str s], h => if s.length = 1 then .ok (.int (s.cps.getD 0 0 : Nat)) h else .bad
  | _, _ => .bad
def blsOf : List W → Option (List Bool)
  | [] => some []
  | .bl b :: r => (blsOf r).map (b :: ·)
  | _ => none
def bAll : List W → Heap → R
  | [w], h => match (seqW h w).bind blsOf with
    | some bs => .ok (.bl (bs.all id)) h
    | none => .bad
  | _, _ => .bad
def bAny : List W → Heap → R
  | [w], h => match (seqW h w).bind blsOf with
    | some bs => .ok (.bl (bs.any id)) h
    | none => .bad
  | _, _ => .bad
/-- repr of data -/
def bRepr : List W → Heap → R
  | [.int i], h => if i.natAbs.log2 < 1920 then .ok (.str (toString i)) h else .bad
  | [w], h => match w, toD h 60 w with
    | .str _, _ => .bad
    | .non, _ => .bad
    | .bl _, _ => .bad
    | _, some d => if d.hasDict = false ∧ d.showable = true ∧ d.depth ≤ 60 ∧ d.shown.length ≤ sizeLine then .ok (.str d.shown) h else .bad
    | _, _ => .bad
  | _, _ => .bad
/-- types, for isinstance: a built-in one, an own class -/
inductive Ty where
  | b (t : String) | c (n : Nat)
def tyOf (h : Heap) : W → Option Ty
  | .non => some (.b "NoneType")
  | .bl _ => some (.b "bool")
  | .int _ => some (.b "int")
  | .str _ => some (.b "str")
  | .tup _ => some (.b "tuple")
  | .fl _ => some (.b "list")
  | .ref n => match h.get n with
    | some (.lst _) => some (.b "list")
    | some (.dct _) => some (.b "dict")
    | some (.ins c _) => some (.c c)
    | _ => none
  | _ => none
/-- isinstance; cl: the answers where an own class is asked or the value is an instance -/
def isiO (cl : Ty → W → Option Bool) : Ty → W → Option Bool
  | .b t, .ty u => kitB t u
  | t, w => cl t w
def bIsi (cl : Ty → W → Option Bool) : List W → Heap → R
  | [x, c], h => match tyOf h x with
    | some t => match isiO cl t c with
      | some b => .ok (.bl b) h
      | none => .bad
    | none => .bad
  | _, _ => .bad
def tyV' (N : Nm) : Ty → Value
  | .b t => .type t
  | .c n => .ref (N.ca n)
/-- cl is right -/
structure IsiOk (X : Cx) (N : Nm) (cl : Ty → W → Option Bool) : Prop where
  own : ∀ t w b, cl t w = some b → ∃ a, w = .gl a ∧ PySem.W.kitOne X.K (tyV' N t) (.ref a) = some b
  cls : ∀ n w b, cl (.c n) w = some b → Cls X.K (N.ca n) ∧ PySem.W.findIn X.K (.ref (N.ca n)) "__class__" = some (some (.builtin "object.__class__")) ∧
    PySem.W.specialIn X.K (.builtin "object.__class__") "__get__" = some (some (.builtin "getset_descriptor.__get__")) ∧ PySem.W.takesIn X.K (.builtin "object.__class__") = some true ∧ PySem.W.mroIn X.K (N.ca n) (.type "object") = some true
section
variable {X : Cx} {N : Nm}
theorem okb_len : CalOk X N (.builtin "len") bLen := by
  refine ⟨_, call_len, fun ρ h H ws vs Q E hr r o => ?_⟩
  match ws, r with
  | [], _ => exact o.elim
  | [w], .cons (y := vv) q .nil =>
    have lst : ∀ (o : Out X.K N ρ H (match seqW h w with | some xs => .ok (.int xs.length) h | none => .bad) Q E), ∃ x n, [vv] = [x] ∧ LenV X.K x H n ∧ Q (.int n) H := fun o => by
      split at o
      · rename_i xs e
        obtain ⟨a, ys, rfl, h1, h2⟩ := seqW_in hr e q
        exact ⟨V.ref a, ys.length, rfl, Or.inl ⟨ys, h1, rfl⟩, by rw [← h2.length]; exact o.val hr (.int _)⟩
      · exact o.elim
    cases q with
    | str s =>
      simp only [bLen] at o
      split at o
      · exact ⟨_, _, rfl, ⟨by assumption, rfl⟩, o.val hr (.int _)⟩
      · exact o.elim
    | @tup _ ys a q r => exact ⟨V.ref a, ys.length, rfl, Or.inr ⟨_, q, rfl⟩, by rw [← r.length]; exact o.val hr (.int _)⟩
    | fl q r => exact lst o
    | ref q => exact lst o
    | _ => exact o.elim
  | w :: w' :: ws, r => cases w <;> exact o.elim
theorem two_args {K : PySem.W.Frag} {ρ : List Addr} {H : Hp} {ws : List W} {vs : List V} (r : VRs K ρ H ws vs) : (∃ x y v u, ws = [x, y] ∧ vs = [v, u] ∧ VR K ρ H x v ∧ VR K ρ H y u) ∨ ∀ x y, ws ≠ [x, y] := by
  match ws, r with
  | [], _ => exact .inr fun _ _ e => nomatch e
  | [_], _ => exact .inr fun _ _ e => nomatch e
  | [x, y], .cons q (.cons q' .nil) => exact .inl ⟨x, y, _, _, rfl, rfl, q, q'⟩
  | _ :: _ :: _ :: _, _ => exact .inr fun _ _ e => nomatch e
theorem one_arg {K : PySem.W.Frag} {ρ : List Addr} {H : Hp} {ws : List W} {vs : List V} (r : VRs K ρ H ws vs) : (∃ x v, ws = [x] ∧ vs = [v] ∧ VR K ρ H x v) ∨ ∀ x, ws ≠ [x] := by
  match ws, r with
  | [], _ => exact .inr fun _ e => nomatch e
  | [x], .cons q .nil => exact .inl ⟨x, _, rfl, rfl, q⟩
  | _ :: _ :: _, _ => exact .inr fun _ e => nomatch e
theorem okb_max2 (hc : X.calm = true) : CalOk X N (.builtin "max") bMax2 := by
  refine ⟨_, call_max2 hc, fun ρ h H ws vs Q E hr r o => ?_⟩
  unfold bMax2 at o
  split at o
  · match r with | .cons q (.cons q' .nil) => cases q; cases q'; exact ⟨_, _, rfl, o.val hr (.int _)⟩
  · exact o.elim
theorem okb_min2 (hc : X.calm = true) : CalOk X N (.builtin "min") bMin2 := by
  refine ⟨_, call_min2 hc, fun ρ h H ws vs Q E hr r o => ?_⟩
  unfold bMin2 at o
  split at o
  · match r with | .cons q (.cons q' .nil) => cases q; cases q'; exact ⟨_, _, rfl, o.val hr (.int _)⟩
  · exact o.elim
theorem okb_ord : CalOk X N (.builtin "ord") bOrd := by
  refine ⟨_, call_ord, fun ρ h H ws vs Q E hr r o => ?_⟩
  unfold bOrd at o
  split at o
  · split at o
    · match r with | .cons q .nil => cases q; exact ⟨_, rfl, by assumption, o.val hr (.int _)⟩
    · exact o.elim
  · exact o.elim
theorem bls_in {K : PySem.W.Frag} {ρ : List Addr} {H : Hp} : ∀ {xs : List W} {ys : List V} {bs : List Bool}, blsOf xs = some bs → VRs K ρ H xs ys → ys = bs.map V.bl
  | [], [], bs, e, .nil => by simp [blsOf] at e; subst e; rfl
  | x :: xs, y :: ys, bs, e, .cons q r => by
    cases q with
    | bl b =>
      simp only [blsOf, Option.map_eq_some_iff] at e
      obtain ⟨cs, e, rfl⟩ := e
      rw [bls_in e r]
      rfl
    | _ => simp [blsOf] at e
theorem okb_all (hc : X.calm = true) : CalOk X N (.builtin "all") bAll := by
  refine ⟨_, cr_all hc, fun ρ h H ws vs Q E hr r o => ?_⟩
  unfold bAll at o
  split at o
  · split at o
    · rename_i bs e
      match r with
      | .cons q .nil =>
        rw [Option.bind_eq_some_iff] at e
        obtain ⟨xs, e1, e2⟩ := e
        obtain ⟨a, ys, rfl, h1, h2⟩ := seqW_in hr e1 q
        rw [bls_in e2 h2] at h1
        exact ⟨a, bs, rfl, h1, o.val hr (.bl _)⟩
    · exact o.elim
  · exact o.elim
theorem okb_any (hc : X.calm = true) : CalOk X N (.builtin "any") bAny := by
  refine ⟨_, cr_any hc, fun ρ h H ws vs Q E hr r o => ?_⟩
  unfold bAny at o
  split at o
  · split at o
    · rename_i bs e
      match r with
      | .cons q .nil =>
        rw [Option.bind_eq_some_iff] at e
        obtain ⟨xs, e1, e2⟩ := e
        obtain ⟨a, ys, rfl, h1, h2⟩ := seqW_in hr e1 q
        rw [bls_in e2 h2] at h1
        exact ⟨a, bs, rfl, h1, o.val hr (.bl _)⟩
    · exact o.elim
  · exact o.elim
def rReprD (K : PySem.W.Frag) : List V → Hp → VK → Prop := fun xs H Q => ∃ a d, xs = [V.ref a] ∧ Dp K H (.ref a) d ∧ d.hasDict = false ∧ d.showable = true ∧ d.depth ≤ 60 ∧ d.shown.length ≤ sizeLine ∧ Q (.str d.shown) H
theorem call_reprD (hg : X.A.guards = some []) (hu : X.A.units + 64 < cLine) : CallR X (.builtin "repr") (rReprD X.K) := by
  intro pins s σ H xs us Q I r h
  obtain ⟨a, d, rfl, hd, h1, h2, h3, h4, q⟩ := h
  obtain ⟨u, rfl, ru⟩ := vals1 r
  cases (show u = Value.ref a from ru)
  obtain ⟨as, rd⟩ := Dp.reads I d _ _ hd rfl
  refine repr_of_reads' rd h2 (PyData.noDict_hsm h1) hg (by omega) (fun _ _ e => e) (fun h' u tk hk => ?_) h4
  exact ⟨.str _, H, I.kept hk, ⟨u, rfl⟩, q⟩
theorem okb_repr (hg : X.A.guards = some []) (hu : X.A.units + 64 < cLine) : CalOk X N (.builtin "repr") bRepr := by
  refine ⟨_, CallR.or SkE.call_repr_int (call_reprD hg hu), fun ρ h H ws vs Q E hr r o => ?_⟩
  rcases one_arg r with ⟨x, v, rfl, rfl, q⟩ | n
  · cases q with
    | int i =>
      simp only [bRepr] at o
      split at o
      · exact .inl ⟨_, rfl, by assumption, o.val hr (.str _)⟩
      · exact o.elim
    | tup q r' =>
      simp only [bRepr] at o
      split at o
      · exact o.elim
      · exact o.elim
      · exact o.elim
      · rename_i d e _ _ _
        split at o
        · rename_i z
          exact .inr ⟨_, d, rfl, toD_in hr _ _ _ _ e (.tup q r'), z.1, z.2.1, z.2.2.1, z.2.2.2, o.val hr (.str _)⟩
        · exact o.elim
      · exact o.elim
    | fl q r' =>
      simp only [bRepr] at o
      split at o
      · exact o.elim
      · exact o.elim
      · exact o.elim
      · rename_i d e _ _ _
        split at o
        · rename_i z
          exact .inr ⟨_, d, rfl, toD_in hr _ _ _ _ e (.fl q r'), z.1, z.2.1, z.2.2.1, z.2.2.2, o.val hr (.str _)⟩
        · exact o.elim
      · exact o.elim
    | ref q =>
      simp only [bRepr] at o
      split at o
      · exact o.elim
      · exact o.elim
      · exact o.elim
      · rename_i d e _ _ _
        split at o
        · rename_i z
          exact .inr ⟨_, d, rfl, toD_in hr _ _ _ _ e (.ref q), z.1, z.2.1, z.2.2.1, z.2.2.2, o.val hr (.str _)⟩
        · exact o.elim
      · exact o.elim
    | _ => exact o.elim
  · unfold bRepr at o
    split at o
    · exact (n _ rfl).elim
    · exact (n _ rfl).elim
    · exact o.elim
theorem ty_in {K : PySem.W.Frag} {ρ : List Addr} {h : Heap} {H : Hp} {w : W} {v : V} {t : Ty} (hr : HR K N ρ h H) (r : VR K ρ H w v) (e : tyOf h w = some t) (hc : ∀ n, t = .c n → Cls K (N.ca n) ∧ PySem.W.findIn K (.ref (N.ca n)) "__class__" = some (some (.builtin "object.__class__")) ∧
    PySem.W.specialIn K (.builtin "object.__class__") "__get__" = some (some (.builtin "getset_descriptor.__get__")) ∧ PySem.W.takesIn K (.builtin "object.__class__") = some true ∧ PySem.W.mroIn K (N.ca n) (.type "object") = some true) : TyX K H v (tyV' N t) := by
  cases r with
  | non => cases e; exact .base .non
  | bl b => cases e; exact .base (.bl b)
  | int i => cases e; exact .base (.int i)
  | str s => cases e; exact .base (.str s)
  | tup q r =>
    cases e
    rcases q with (q | ⟨o, q⟩) | ⟨o, _, _, q, c, _⟩
    · exact .base (.tup q)
    · exact .fTuple q
    · exact .kTuple q c
  | fl q r =>
    cases e
    rcases q with ⟨o, q⟩ | ⟨o, _, _, q, c, _⟩
    · exact .base (.frz q)
    · exact .kList q c
  | ref q =>
    simp only [tyOf] at e
    split at e
    · rename_i xs z
      cases e
      obtain ⟨ys, h1, _⟩ := lst_mut hr z q
      exact .base (.lst h1)
    · rename_i kvs z
      cases e
      obtain ⟨ks, h1, _⟩ := dct_of hr z q
      exact .base (.dK h1)
    · rename_i c fs z
      cases e
      obtain ⟨dx, fs', h1, _⟩ := ins_of hr z q
      obtain ⟨c1, c2, c3, c4, c5⟩ := hc c rfl
      exact .base (.ins h1 c1 c2 c3 c4 c5)
    · cases e
  | gl => cases e
  | ty => cases e
theorem okb_isi {cl : Ty → W → Option Bool} (ok : IsiOk X N cl) : CalOk X N (.builtin "isinstance") (bIsi cl) := by
  refine ⟨_, call_isi, fun ρ h H ws vs Q E hr r o => ?_⟩
  rcases two_args r with ⟨x, c, v, u, rfl, rfl, q1, q2⟩ | n
  · simp only [bIsi] at o
    split at o
    · rename_i t et
      split at o
      · rename_i b eb
        unfold isiO at eb
        split at eb
        · rename_i t' u'
          cases q2
          exact ⟨v, _, _, _, b, rfl, .ty _, ty_in hr q1 et (fun n z => nomatch z), kit_ty eb, o.val hr (.bl b)⟩
        · obtain ⟨a, rfl, k⟩ := ok.own _ _ _ eb
          cases q2
          exact ⟨v, _, _, _, b, rfl, .own a, ty_in hr q1 et (fun n z => by subst z; exact ok.cls n _ _ eb), k, o.val hr (.bl b)⟩
      · exact o.elim
    · exact o.elim
  · unfold bIsi at o
    split at o
    · exact (n _ _ rfl).elim
    · exact o.elim
def clNo : Ty → W → Option Bool := fun _ _ => none
theorem isi_no : IsiOk X N clNo := ⟨fun t w b (e : none = some b) => (nomatch e), fun n w b (e : none = some b) => (nomatch e)⟩
/-! methods of texts -/
def strsOf : List W → Option (List Str)
  | [] => some []
  | .str b :: r => (strsOf r).map (b :: ·)
  | _ => none
def mJoin : W → List W → Heap → R
  | .str a, [w], h => match (match w with | .tup xs => some xs | w => seqW h w).bind strsOf with
    | some ys => if (ys.map (·.length)).sum + ys.length * a.length ≤ 16777216 then .ok (.str (Txt.join a ys)) h else .bad
    | none => .bad
  | _, _, _ => .bad
theorem strs_in {K : PySem.W.Frag} {ρ : List Addr} {H : Hp} : ∀ {xs : List W} {ys : List V} {bs : List Str}, strsOf xs = some bs → VRs K ρ H xs ys → ys = bs.map V.str
  | [], [], bs, e, .nil => by simp [strsOf] at e; subst e; rfl
  | x :: xs, y :: ys, bs, e, .cons q r => by
    cases q with
    | str b =>
      simp only [strsOf, Option.map_eq_some_iff] at e
      obtain ⟨cs, e, rfl⟩ := e
      rw [strs_in e r]
      rfl
    | _ => simp [strsOf] at e
theorem okm_join : BmOk X N "str.join" mJoin := by
  refine ⟨_, mt_join, fun ρ h H w ws v vs Q E hr rw rws o => ?_⟩
  unfold mJoin at o
  split at o
  · rename_i a w
    cases rw
    match vs, rws with
    | [vv], .cons q .nil =>
      split at o
      · rename_i ys e
        split at o
        · rename_i hz
          rw [Option.bind_eq_some_iff] at e
          obtain ⟨xs, e1, e2⟩ := e
          have z : ∃ p, vv = V.ref p ∧ (SqL X.K H p (ys.map V.str) ∨ SqT X.K H p (ys.map V.str)) := by
            split at e1
            · cases e1
              cases q with
              | tup q r => rw [strs_in e2 r] at q; exact ⟨_, rfl, .inr q⟩
            · obtain ⟨p, ps, rfl, h1, h2⟩ := seqW_in hr e1 q
              rw [strs_in e2 h2] at h1
              exact ⟨_, rfl, .inl h1⟩
          obtain ⟨p, rfl, z⟩ := z
          exact ⟨a, p, ys, rfl, rfl, z, hz, o.val hr (.str _)⟩
        · exact o.elim
      · exact o.elim
  · exact o.elim
def mUpper : W → List W → Heap → R
  | .str a, [], h => if a.length ≤ 5592405 then .ok (.str (Txt.upper a)) h else .bad
  | _, _, _ => .bad
theorem okm_upper : BmOk X N "str.upper" mUpper := by
  refine ⟨_, mt_upper, fun ρ h H w ws v vs Q E hr rw rws o => ?_⟩
  unfold mUpper at o
  split at o
  · split at o
    · cases rw; cases rws; exact ⟨_, rfl, rfl, by assumption, o.val hr (.str _)⟩
    · exact o.elim
  · exact o.elim
end
end Ev
set_option maxRecDepth 100000
/-! EvGlue: words for printed derivations. -/
namespace Ev
open PySem L2
theorem bt_len : bootBuiltins "len" = some (.builtin "len") := PySem.boot_len
theorem bt_max : bootBuiltins "max" = some (.builtin "max") := by decide +kernel
theorem bt_min : bootBuiltins "min" = some (.builtin "min") := by decide +kernel
theorem bt_ord : bootBuiltins "ord" = some (.builtin "ord") := by decide +kernel
theorem bt_all : bootBuiltins "all" = some (.builtin "all") := by decide +kernel
theorem bt_any : bootBuiltins "any" = some (.builtin "any") := by decide +kernel
theorem bt_repr : bootBuiltins "repr" = some (.builtin "repr") := by decide +kernel
theorem bt_isinstance : bootBuiltins "isinstance" = some (.builtin "isinstance") := by decide +kernel
theorem bt_str : bootBuiltins "str" = some (.type "str") := by decide +kernel
theorem bt_int : bootBuiltins "int" = some (.type "int") := by decide +kernel
theorem bt_list : bootBuiltins "list" = some (.type "list") := by decide +kernel
theorem bt_tuple : bootBuiltins "tuple" = some (.type "tuple") := by decide +kernel
theorem bt_dict : bootBuiltins "dict" = some (.type "dict") := by decide +kernel
theorem bt_bool : bootBuiltins "bool" = some (.type "bool") := by decide +kernel
/-- a comprehension's block, checked -/
def blkB (N : List Str) (sc scope : Scope) (own : List (Str × Nat)) : Bool :=
  (scope.kind == .function) && (scope.names.all fun y => decide (scope.names.lookup y.1 = some y.2)) && (own.all fun p => decide (N[p.2]? = some p.1)) &&
    (scope.names.all fun y => !decide (y.2 = .free) || decide (sc.names.lookup y.1 = some .cell) || decide (sc.names.lookup y.1 = some .free)) &&
    (scope.names.all fun y => !(decide (y.2 = .local) || decide (y.2 = .cell)) || decide (y.1 ∈ own.map (·.1)) || decide (y.1 ∉ N))
theorem blk_ok {N : List Str} {sc scope : Scope} {own : List (Str × Nat)} (h : blkB N sc scope own = true) : BlkOk N sc scope own := by
  unfold blkB at h
  simp only [Bool.and_eq_true, List.all_eq_true, Bool.or_eq_true, Bool.not_eq_true', decide_eq_true_eq, decide_eq_false_iff_not] at h
  obtain ⟨⟨⟨⟨h1, h2⟩, h3⟩, h4⟩, h5⟩ := h
  refine ⟨by simpa using h1, h2, h3, fun y m e => ?_, fun y m e => ?_⟩
  · rcases h4 y m with (z | z) | z
    · exact (z e).elim
    · exact .inl z
    · exact .inr z
  · rcases h5 y m with (z | z) | z
    · rcases e with e | e
      · simp [e] at z
      · simp [e] at z
    · exact .inl z
    · exact .inr z
/-- which of the given values a parameter takes -/
def pick {α : Type} (sel : List (Bool × Nat)) (us ws : List α) : List α := sel.filterMap fun p => if p.1 then ws[p.2]? else us[p.2]?
theorem pick_vrs {K : PySem.W.Frag} {ρ : List Addr} {H : Hp} {xs ys : List W} {vs zs : List V} {us ws : List Value} (r1 : VRs K ρ H xs vs) (r2 : VRs K ρ H ys zs) (q1 : Vals vs us) (q2 : Vals zs ws) : ∀ sel : List (Bool × Nat), ∃ os, VRs K ρ H (pick sel xs ys) os ∧ Vals os (pick sel us ws)
  | [] => ⟨[], .nil, .nil⟩
  | (b, i) :: sel => by
    obtain ⟨os, h1, h2⟩ := pick_vrs r1 r2 q1 q2 sel
    have one : ∀ {as : List W} {bs : List V} {cs : List Value}, VRs K ρ H as bs → Vals bs cs → (as[i]? = none ∧ cs[i]? = none) ∨ ∃ w v u, as[i]? = some w ∧ cs[i]? = some u ∧ VR K ρ H w v ∧ RelV v u := fun {as bs cs} r q => by
      cases e : as[i]? with
      | none =>
        refine .inl ⟨rfl, ?_⟩
        rw [List.getElem?_eq_none_iff] at e ⊢
        have := r.length
        have := q.length
        omega
      | some w =>
        obtain ⟨v, e1, r1⟩ := r.get e
        obtain ⟨u, e2, r2⟩ := q.get e1
        exact .inr ⟨w, v, u, rfl, e2, r1, r2⟩
    cases b with
    | false =>
      rcases one r1 q1 with ⟨e1, e2⟩ | ⟨w, v, u, e1, e2, a, c⟩
      · exact ⟨os, by simpa [pick, e1] using h1, by simpa [pick, e2] using h2⟩
      · exact ⟨v :: os, by simpa [pick, e1] using .cons a h1, by simpa [pick, e2] using .cons c h2⟩
    | true =>
      rcases one r2 q2 with ⟨e1, e2⟩ | ⟨w, v, u, e1, e2, a, c⟩
      · exact ⟨os, by simpa [pick, e1] using h1, by simpa [pick, e2] using h2⟩
      · exact ⟨v :: os, by simpa [pick, e1] using .cons a h1, by simpa [pick, e2] using .cons c h2⟩
/-- a def of the text, without defaults, and what it does -/
structure DfOk (P : Program) (w : World) (K : PySem.W.Frag) (mg : Str → Option Value) (base : PySem.Heap) (N : Nm) (k : Nat) (x : Str) (st : Stmt) (ps : List Str) (F : List W → Heap → R) : Prop where
  ex : ∃ f fd, mg x = some (.ref f) ∧ FunD K x x (defArgs st) (defBody st) (defScope st) [] [] f fd ∧ FG P w K mg base k f fd ps (LSp K N F)
theorem DfOk.mono {P : Program} {w : World} {K : PySem.W.Frag} {mg : Str → Option Value} {base : PySem.Heap} {N : Nm} {j k : Nat} {x : Str} {st : Stmt} {ps : List Str} {F : List W → Heap → R} (D : DfOk P w K mg base N j x st ps F) (h : j ≤ k) : DfOk P w K mg base N k x st ps F :=
  let ⟨f, fd, h1, h2, h3⟩ := D.ex
  ⟨f, fd, h1, h2, h3.mono h⟩
/-- how its arguments bind -/
def Bd (x : Str) (st : Stmt) (ps : List Str) (n : Nat) (ks : List Str) (sel : List (Bool × Nat)) : Prop :=
  ∀ (kV doc pm : Value) (an : Option Addr) (cdv ct : Value) (us ws : List Value), us.length = n → ws.length = ks.length → bindArgs (PySem.W.fnOf x x (defArgs st) (defBody st) (defScope st) .none kV doc pm an cdv ct) ⟨us, ks.zip ws⟩ = pure (ps.zip (pick sel us ws))
theorem FunD.kb {K : PySem.W.Frag} {x : Str} {st : Stmt} {ps : List Str} {n : Nat} {ks : List Str} {sel : List (Bool × Nat)} {f : Addr} {fd : FuncData} (F : FunD K x x (defArgs st) (defBody st) (defScope st) [] [] f fd) (h : Bd x st ps n ks sel) : KB K fd ps n ks (pick sel) := by
  obtain ⟨oc, od, dV, kV, doc, pm, an, cdv, ct, osl, rfl, lk, hcd, hd, _⟩ := F.ex
  obtain rfl : dV = .none := by
    rcases hd with ⟨_, e⟩ | ⟨e, _⟩
    · exact e
    · exact (e rfl).elim
  exact ⟨pick sel, fun s us ws _ l1 l2 => .of_eq (h _ _ _ _ _ _ us ws l1 l2), fun r1 r2 q1 q2 l1 l2 => pick_vrs r1 r2 q1 q2 sel⟩
/-- a def where it stands -/
def DfAt (K : PySem.W.Frag) (mg : Str → Option Value) (x : Str) (st : Stmt) : Prop := ∃ f fd, mg x = some (.ref f) ∧ FunD K x x (defArgs st) (defBody st) (defScope st) [] [] f fd
theorem DfOk.mk' {P : Program} {w : World} {K : PySem.W.Frag} {mg : Str → Option Value} {base : PySem.Heap} {N : Nm} {k : Nat} {x : Str} {st : Stmt} {ps Ns : List Str} {s : SS} (D : DfAt K mg x st) (S : FnScope Ns ps (defScope st)) (b : ∀ f, BodyOk P w K mg base N Ns x (defScope st) (defBody st) f k s) :
    DfOk P w K mg base N (k + 1) x st ps (fnOf ps.length Ns.length s) :=
  let ⟨f, fd, h1, h2⟩ := D
  ⟨f, fd, h1, h2, d_fn h2 S (b f)⟩
/-- what the head is asked: facts, tuples of data -/
def chkF (fa : List He.Fa) (tb : List (Str × List He.Dv)) (K : PySem.W.Frag) : Bool := (fa.all fun f => f.ok K) && tb.all fun p => He.tupB K p.1 p.2
section
open He
variable {K : PySem.W.Frag} {h : PySem.Heap} {mg : Str → Option Value} {fa : List Fa} {tb : List (Str × List Dv)} {fn : List DefD}
theorem chk_fa (c : chkF fa tb K = true) (i : Nat) {f : Fa} (h : fa[i]? = some f := by rfl) : f.ok K = true := List.all_eq_true.mp (ba c).1 f (List.mem_of_getElem? h)
theorem chk_tb (c : chkF fa tb K = true) (i : Nat) {p : Str × List Dv} (h : tb[i]? = some p := by rfl) : tupB K p.1 p.2 = true := List.all_eq_true.mp (ba c).2 p (List.mem_of_getElem? h)
def dvW : Dv → Option W
  | .non => some .non
  | .bl b => some (.bl b)
  | .int i => some (.int i)
  | .str s => some (.str s)
  | .ty t => some (.ty t)
  | _ => none
theorem dv_in {ρ : List Addr} {H : Hp} : ∀ {ds : List Dv} {ws : List W}, ds.map dvW = ws.map some → VRs K ρ H ws (ds.map (Dv.v K))
  | [], [], _ => .nil
  | [], _ :: _, e => by cases e
  | _ :: _, [], e => by cases e
  | d :: ds, w :: ws, e => by
    simp only [List.map_cons, List.cons.injEq] at e
    refine .cons ?_ (dv_in e.2)
    have e1 := e.1
    cases d <;> simp [dvW] at e1 <;> subst e1
    · exact .non
    · exact .bl _
    · exact .int _
    · exact .str _
    · exact .ty _
theorem gtup_of (X : K.In h) (G : h.Ns mainGlobals mg) {x : Str} {ds : List Dv} {ws : List W} (c : (Fa.glo x).ok K = true) (t : tupB K x ds = true) (e : ds.map dvW = ws.map some := by rfl) : ∃ a, mg x = some (.ref a) ∧ ∀ ρ H, VR K ρ H (.tup ws) (.ref a) :=
  ⟨_, glo_ok X G c, fun ρ H => .tup (tupB_ok t H) (dv_in e)⟩
theorem def_at (X : K.In h) (G : h.Ns mainGlobals mg) {x : Str} {st : Stmt} {ck : PySem.W.Frag → Bool} (c : SaysE ck fn K) (i : Nat) (g : (Fa.glo x).ok K = true) (e : fn[i]? = some ⟨(x, none), x, x, defArgs st, defBody st, defScope st, [], []⟩) : DfAt K mg x st := by
  obtain ⟨fd, F⟩ := c.def_ i e
  exact ⟨_, fd, glo_ok X G g, F⟩
end
section
variable {X : Cx} {N : Nm} {Wx : WX} {pos p : Pos} {e a b : PySem.Expr} {es : List PySem.Expr} {kws : List Keyword} {gs hs : SEs} {k n : Nat} {x : Str} {st : Stmt} {ps ks : List Str} {F : List W → Heap → R} {sel : List (Bool × Nat)} {f g : SE}
theorem rv (i : Nat) (hN : X.N[i]? = some x := by rfl) (hv : Vis X.env.scope x := by first | exact Or.inl rfl | exact Or.inr (Or.inl rfl) | exact Or.inr (Or.inr rfl)) (hd : (x == ("__debug__" : Str)) = false := by decide) (hcd : (x == ("__classdict__" : Str)) = false := by decide) : PE X (.Name x pos) (LE X.K N Wx (eVar i)) := r_var hN hv hd hcd
theorem rix (hu : X.A.units + 1 < cLine) (ha : PE X a (LE X.K N Wx f)) (hb : PE X b (LE X.K N Wx g)) (hs : PlainIx b := by exact fun _ _ => rfl) : PE X (.Subscript a b pos) (LE X.K N Wx (eBin wIx f g)) := r_ix hu ha hb hs
theorem r_calld (D : DfOk X.prog X.w X.K X.mg X.base N k x st ps F) (bd : Bd x st ps n ks sel) (hr : Room k X.A) (hgu : X.A.guards = some []) (tk : Takes X Wx) (ha : PA X (e :: es) (LA X.K N Wx gs)) (hkw : PK X kws (LA X.K N Wx hs)) (hg : Gl X x := by rfl)
    (hall : (backToKw pos (keywordEach kws X.env)).all (·.1.isSome) = true := by rfl) (hks : (backToKw pos (keywordEach kws X.env)).filterMap (·.1) = ks := by rfl)
    (hdb : (x == ("__debug__" : Str)) = false := by decide) (he : starEach (e :: es) X.env = (false, eval e X.env) :: starEach es X.env := by rfl)
    (hpl : ((backTo pos (starEach (e :: es) X.env)).any (·.1) || (backToKw pos (keywordEach kws X.env)).any (·.1.isNone)) = false := by rfl) : PE X (.Call (.Name x p) (e :: es) kws pos) (LE X.K N Wx (eCall (fun xs ys h => F (pick sel xs ys) h) n ks.length gs hs)) := by
  obtain ⟨f, fd, h1, h2, h3⟩ := D.ex
  exact r_call (cal_fn h3 hr hgu (FunD.kb h2 bd) tk) hg h1 h2.kp ha hkw hall hks hdb he hpl
theorem r_calld0 (D : DfOk X.prog X.w X.K X.mg X.base N k x st ps F) (bd : Bd x st ps 0 ks sel) (hr : Room k X.A) (hgu : X.A.guards = some []) (tk : Takes X Wx) (hkw : PK X kws (LA X.K N Wx hs)) (hg : Gl X x := by rfl)
    (hall : (backToKw pos (keywordEach kws X.env)).all (·.1.isSome) = true := by rfl) (hks : (backToKw pos (keywordEach kws X.env)).filterMap (·.1) = ks := by rfl)
    (hdb : (x == ("__debug__" : Str)) = false := by decide)
    (hpl : ((backTo pos (starEach [] X.env)).any (·.1) || (backToKw pos (keywordEach kws X.env)).any (·.1.isNone)) = false := by rfl) : PE X (.Call (.Name x p) [] kws pos) (LE X.K N Wx (eCall (fun xs ys h => F (pick sel xs ys) h) 0 ks.length aNil hs)) := by
  obtain ⟨f, fd, h1, h2, h3⟩ := D.ex
  exact r_call0 (cal_fn h3 hr hgu (FunD.kb h2 bd) tk) hg h1 h2.kp hkw hall hks hdb hpl
theorem tk0 : Takes X W0 := fun u s' h => by
  obtain ⟨_, _, _, _, _, _, _, _, _, _, _, _, _, _, _, _, z⟩ := h
  exact z.elim
theorem r_gint {i : Int} (h : ∃ t, X.mg x = some (.int i t)) (hg : Gl X x := by rfl) (hd : (x == ("__debug__" : Str)) = false := by decide) : PE X (.Name x pos) (LE X.K N Wx (eW (.int i))) := by
  obtain ⟨t, h⟩ := h
  exact r_glob (v := .int i) hg h ⟨t, rfl⟩ (fun _ _ => .int i) hd
theorem r_gstr {i : Str} (h : ∃ t, X.mg x = some (.str i t)) (hg : Gl X x := by rfl) (hd : (x == ("__debug__" : Str)) = false := by decide) : PE X (.Name x pos) (LE X.K N Wx (eW (.str i))) := by
  obtain ⟨t, h⟩ := h
  exact r_glob (v := .str i) hg h ⟨t, rfl⟩ (fun _ _ => .str i) hd
theorem r_gobj {w : W} (h : ∃ a, X.mg x = some (.ref a) ∧ ∀ ρ H, VR X.K ρ H w (.ref a)) (hg : Gl X x := by rfl) (hd : (x == ("__debug__" : Str)) = false := by decide) : PE X (.Name x pos) (LE X.K N Wx (eW w)) := by
  obtain ⟨a, h1, h2⟩ := h
  exact r_glob (v := .ref a) hg h1 rfl h2 hd
/-- a chain as a test -/
theorem t_chain {c : PySem.Expr} {o o' : CmpOp} {op op' : W → W → Heap → R} {h : SE} (ho : OpOk X N (compareOp o) op) (ho' : OpOk X N (compareOp o') op') (ha : PE X a (LE X.K N Wx f)) (hb : PE X b (LE X.K N Wx g)) (hc : PE X c (LE X.K N Wx h))
    (hm : lastMarks [o, o'] [b, c] = false := by with_unfolding_all rfl) : PT X (.Compare a [o, o'] [b, c] pos) (LT X.K N Wx (bVal (eChain op op' f g h))) := by
  obtain ⟨r, h1, h2⟩ := ho
  obtain ⟨r', h1', h2'⟩ := ho'
  exact PT.imp (pt_chain h1 h1' ha hb hc hm) fun σ H Q h => chain_in h2 h2' (val_in h)
theorem own_one {j : Nat} {l : List Nat} (h : j ∈ l := by decide) : ∀ i, (Tg.one j).has i → i ∈ l := fun i e => by
  have e : i = j := e
  rw [e]; exact h
theorem own_two {j k : Nat} {l : List Nat} (h : j ∈ l := by decide) (h' : k ∈ l := by decide) : ∀ i, (Tg.two j k).has i → i ∈ l := fun i e => by
  rcases e with e | e <;> subst e <;> assumption
end
end Ev
set_option maxRecDepth 100000
/-! EvPost: what must hold so that a semantic function ends in Q: iff by iff, for simp. -/
namespace Ev
open PySem L2
def R.to (r : R) (Q : W → Heap → Prop) (E : Nat → List (Nat × W) → Heap → Prop) : Prop := match r with
  | .ok w h => Q w h
  | .exc c fs h => E c fs h
  | .bad => False
def Rs.to (r : Rs) (Q : List W → Heap → Prop) (E : Nat → List (Nat × W) → Heap → Prop) : Prop := match r with
  | .ok w h => Q w h
  | .exc c fs h => E c fs h
  | .bad => False
def Rb.to (r : Rb) (Q : Bool → Heap → Prop) (E : Nat → List (Nat × W) → Heap → Prop) : Prop := match r with
  | .ok w h => Q w h
  | .exc c fs h => E c fs h
  | .bad => False
def Ri.to (r : Ri) (Q : List W → List (Nat × List W) → Heap → Prop) (E : Nat → List (Nat × W) → Heap → Prop) : Prop := match r with
  | .ok w g h => Q w g h
  | .exc c fs h => E c fs h
  | .bad => False
def Rp.to (r : Rp) (Q : List (W × W) → Heap → Prop) (E : Nat → List (Nat × W) → Heap → Prop) : Prop := match r with
  | .ok w h => Q w h
  | .exc c fs h => E c fs h
  | .bad => False
/-- the ends of a statement -/
structure Po where
  nx : Ls → Heap → Prop
  rt : W → Heap → Prop
  bk : Ls → Heap → Prop
  ct : Ls → Heap → Prop
  ex : Nat → List (Nat × W) → Ls → Heap → Prop
def SR.to (r : SR) (P : Po) : Prop := match r with
  | .nx ls h => P.nx ls h
  | .rt w h => P.rt w h
  | .bk ls h => P.bk ls h
  | .ct ls h => P.ct ls h
  | .exc c fs ls h => P.ex c fs ls h
  | .bad => False
section
variable {ls : Ls} {h : Heap} {Q : W → Heap → Prop} {E : Nat → List (Nat × W) → Heap → Prop} {P : Po}
theorem R.to_mono {r : R} {Q Q' : W → Heap → Prop} {E E' : Nat → List (Nat × W) → Heap → Prop} (a : r.to Q E) (q : ∀ w h, Q w h → Q' w h) (e : ∀ c fs h, E c fs h → E' c fs h) : r.to Q' E' := by
  cases r with
  | ok w h => exact q _ _ a
  | exc c fs h => exact e _ _ _ a
  | bad => exact a
theorem Rs.to_mono {r : Rs} {Q Q' : List W → Heap → Prop} {E E' : Nat → List (Nat × W) → Heap → Prop} (a : r.to Q E) (q : ∀ w h, Q w h → Q' w h) (e : ∀ c fs h, E c fs h → E' c fs h) : r.to Q' E' := by
  cases r with
  | ok w h => exact q _ _ a
  | exc c fs h => exact e _ _ _ a
  | bad => exact a
theorem SR.to_mono {r : SR} {P P' : Po} (a : r.to P) (h1 : ∀ ls h, P.nx ls h → P'.nx ls h) (h2 : ∀ ls h, P.rt ls h → P'.rt ls h) (h3 : ∀ ls h, P.bk ls h → P'.bk ls h) (h4 : ∀ ls h, P.ct ls h → P'.ct ls h) (h5 : ∀ c fs ls h, P.ex c fs ls h → P'.ex c fs ls h) : r.to P' := by
  cases r with
  | nx => exact h1 _ _ a
  | rt => exact h2 _ _ a
  | bk => exact h3 _ _ a
  | ct => exact h4 _ _ a
  | exc => exact h5 _ _ _ _ a
  | bad => exact a
@[simp] theorem to_ok {w : W} : (R.ok w h).to Q E ↔ Q w h := Iff.rfl
@[simp] theorem to_exc {c : Nat} {fs : List (Nat × W)} : (R.exc c fs h).to Q E ↔ E c fs h := Iff.rfl
@[simp] theorem to_bad : R.bad.to Q E ↔ False := Iff.rfl
@[simp] theorem tos_ok {w : List W} {Q : List W → Heap → Prop} : (Rs.ok w h).to Q E ↔ Q w h := Iff.rfl
@[simp] theorem tos_exc {c : Nat} {fs : List (Nat × W)} {Q : List W → Heap → Prop} : (Rs.exc c fs h).to Q E ↔ E c fs h := Iff.rfl
@[simp] theorem tos_bad {Q : List W → Heap → Prop} : Rs.bad.to Q E ↔ False := Iff.rfl
@[simp] theorem tob_ok {w : Bool} {Q : Bool → Heap → Prop} : (Rb.ok w h).to Q E ↔ Q w h := Iff.rfl
@[simp] theorem tob_exc {c : Nat} {fs : List (Nat × W)} {Q : Bool → Heap → Prop} : (Rb.exc c fs h).to Q E ↔ E c fs h := Iff.rfl
@[simp] theorem tob_bad {Q : Bool → Heap → Prop} : Rb.bad.to Q E ↔ False := Iff.rfl
@[simp] theorem toi_ok {w : List W} {g : List (Nat × List W)} {Q : List W → List (Nat × List W) → Heap → Prop} : (Ri.ok w g h).to Q E ↔ Q w g h := Iff.rfl
@[simp] theorem toi_exc {c : Nat} {fs : List (Nat × W)} {Q : List W → List (Nat × List W) → Heap → Prop} : (Ri.exc c fs h).to Q E ↔ E c fs h := Iff.rfl
@[simp] theorem toi_bad {Q : List W → List (Nat × List W) → Heap → Prop} : Ri.bad.to Q E ↔ False := Iff.rfl
@[simp] theorem toS_nx : (SR.nx ls h).to P ↔ P.nx ls h := Iff.rfl
@[simp] theorem toS_rt {w : W} : (SR.rt w h).to P ↔ P.rt w h := Iff.rfl
@[simp] theorem toS_bk : (SR.bk ls h).to P ↔ P.bk ls h := Iff.rfl
@[simp] theorem toS_ct : (SR.ct ls h).to P ↔ P.ct ls h := Iff.rfl
@[simp] theorem toS_exc {c : Nat} {fs : List (Nat × W)} : (SR.exc c fs ls h).to P ↔ P.ex c fs ls h := Iff.rfl
@[simp] theorem toS_bad : SR.bad.to P ↔ False := Iff.rfl
theorem to_bind {r : R} {k : W → Heap → R} : (r.bind k).to Q E ↔ r.to (fun w h => (k w h).to Q E) E := by cases r <;> rfl
theorem tos_bind {r : Rs} {k : List W → Heap → R} : (r.bind k).to Q E ↔ r.to (fun w h => (k w h).to Q E) E := by cases r <;> rfl
@[simp] theorem to_if {c : Prop} [Decidable c] {a b : R} : (if c then a else b).to Q E ↔ if c then a.to Q E else b.to Q E := by split <;> rfl
theorem to_ifb {c : Prop} [Decidable c] {a : R} : (if c then a else .bad).to Q E ↔ c ∧ a.to Q E := by split <;> simp_all
/-! ### expressions -/
@[simp] theorem x_var {i : Nat} : (eVar i ls h).to Q E ↔ ∃ w, ls[i]? = some (some w) ∧ Q w h := by
  unfold eVar
  split
  · rename_i w e; rw [to_ok]; constructor
    · intro q; exact ⟨w, e, q⟩
    · rintro ⟨w', e', q⟩; rw [e] at e'; cases e'; exact q
  · rename_i n; rw [to_bad]; constructor
    · exact False.elim
    · rintro ⟨w, e, _⟩; exact n w e
@[simp] theorem x_w {w : W} : (eW w ls h).to Q E ↔ Q w h := Iff.rfl
@[simp] theorem x_bin {op : W → W → Heap → R} {f g : SE} : (eBin op f g ls h).to Q E ↔ (f ls h).to (fun x h1 => (g ls h1).to (fun y h2 => (op x y h2).to Q E) E) E := by
  unfold eBin; rw [to_bind]; simp only [to_bind]
@[simp] theorem x_un {op : W → Heap → R} {f : SE} : (eUn op f ls h).to Q E ↔ (f ls h).to (fun x h1 => (op x h1).to Q E) E := by unfold eUn; rw [to_bind]
@[simp] theorem x_chain {op op' : W → W → Heap → R} {f g k : SE} : (eChain op op' f g k ls h).to Q E ↔ (f ls h).to (fun x h1 => (g ls h1).to (fun y h2 => (op x y h2).to (fun z h3 => ∃ b, z = .bl b ∧ ((b = true → (k ls h3).to (fun w h4 => (op' y w h4).to Q E) E) ∧ (b = false → Q (.bl false) h3))) E) E) E := by
  unfold eChain
  cases f ls h with
  | ok x h1 =>
    simp only [R.bind_ok, to_ok]
    cases g ls h1 with
    | ok y h2 =>
      simp only [R.bind_ok, to_ok]
      cases op x y h2 with
      | ok z h3 =>
        simp only [R.bind_ok, to_ok]
        cases z with
        | bl b => cases b <;> simp [to_bind]
        | _ => simp
      | exc => rfl
      | bad => rfl
    | exc => rfl
    | bad => rfl
  | exc => rfl
  | bad => rfl
@[simp] theorem x_and {f g : SE} : (eAnd f g ls h).to Q E ↔ (f ls h).to (fun x h1 => ∃ b, wTru h1 x = some b ∧ ((b = true → (g ls h1).to Q E) ∧ (b = false → Q x h1))) E := by
  unfold eAnd
  cases f ls h with
  | ok x h1 =>
    simp only [R.bind_ok, to_ok]
    cases e : wTru h1 x with
    | none => simp
    | some b => cases b <;> simp
  | exc => rfl
  | bad => rfl
@[simp] theorem x_or {f g : SE} : (eOr f g ls h).to Q E ↔ (f ls h).to (fun x h1 => ∃ b, wTru h1 x = some b ∧ ((b = true → Q x h1) ∧ (b = false → (g ls h1).to Q E))) E := by
  unfold eOr
  cases f ls h with
  | ok x h1 =>
    simp only [R.bind_ok, to_ok]
    cases e : wTru h1 x with
    | none => simp
    | some b => cases b <;> simp
  | exc => rfl
  | bad => rfl
@[simp] theorem x_not {f : SE} : (eNot f ls h).to Q E ↔ (f ls h).to (fun x h1 => ∃ b, wTru h1 x = some b ∧ Q (.bl (!b)) h1) E := by
  unfold eNot eUn
  cases f ls h with
  | ok x h1 =>
    simp only [R.bind_ok, to_ok]
    cases e : wTru h1 x with
    | none => simp
    | some b => cases b <;> simp
  | exc => rfl
  | bad => rfl
@[simp] theorem x_if {t : SB} {f g : SE} : (eIf t f g ls h).to Q E ↔ (t ls h).to (fun b h1 => (b = true → (f ls h1).to Q E) ∧ (b = false → (g ls h1).to Q E)) E := by
  unfold eIf; cases t ls h with
  | ok b h1 => cases b <;> simp
  | exc => rfl
  | bad => rfl
@[simp] theorem xs_nil {Q : List W → Heap → Prop} : (aNil ls h).to Q E ↔ Q [] h := Iff.rfl
@[simp] theorem xs_cons {f : SE} {g : SEs} {Q : List W → Heap → Prop} : (aCons f g ls h).to Q E ↔ (f ls h).to (fun x h1 => (g ls h1).to (fun xs h2 => Q (x :: xs) h2) E) E := by
  unfold aCons
  cases f ls h with
  | ok x h1 =>
    simp only [to_ok]
    cases g ls h1 <;> rfl
  | exc => rfl
  | bad => rfl
@[simp] theorem x_tup {gs : SEs} : (eTup gs ls h).to Q E ↔ (gs ls h).to (fun xs h1 => xs.length ≤ sizeLine ∧ Q (.tup xs) h1) E := by unfold eTup; rw [tos_bind]; simp only [to_ifb, to_ok]
@[simp] theorem x_lst {gs : SEs} : (eLst gs ls h).to Q E ↔ (gs ls h).to (fun xs h1 => xs.length ≤ sizeLine ∧ Q (.ref h1.nx) (h1.new (.lst xs))) E := by unfold eLst; rw [tos_bind]; simp only [to_ifb, to_ok]
@[simp] theorem x_B {op : List W → Heap → R} {gs : SEs} : (eB op gs ls h).to Q E ↔ (gs ls h).to (fun xs h1 => (op xs h1).to Q E) E := by unfold eB; rw [tos_bind]
@[simp] theorem x_Bm {T : String} {op : W → List W → Heap → R} {f : SE} {gs : SEs} : (eBm T op f gs ls h).to Q E ↔ (f ls h).to (fun x h1 => wTyp h1 x = T ∧ (gs ls h1).to (fun xs h2 => (op x xs h2).to Q E) E) E := by
  unfold eBm; rw [to_bind]; simp only [to_ifb, tos_bind]
@[simp] theorem x_call {G : List W → List W → Heap → R} {n m : Nat} {gs hs : SEs} : (eCall G n m gs hs ls h).to Q E ↔ (gs ls h).to (fun xs h1 => (hs ls h1).to (fun ys h2 => (xs.length = n ∧ ys.length = m) ∧ (G xs ys h2).to Q E) E) E := by
  unfold eCall; rw [tos_bind]; simp only [tos_bind, to_ifb]
@[simp] theorem p_nil {Q : List (W × W) → Heap → Prop} : (ePairs [] ls h).to Q E ↔ Q [] h := Iff.rfl
@[simp] theorem p_cons {f g : SE} {r : List (SE × SE)} {Q : List (W × W) → Heap → Prop} : (ePairs ((f, g) :: r) ls h).to Q E ↔ (f ls h).to (fun x h1 => (g ls h1).to (fun y h2 => (ePairs r ls h2).to (fun ps h3 => Q ((x, y) :: ps) h3) E) E) E := by
  rw [ePairs]
  cases f ls h with
  | ok x h1 =>
    simp only [to_ok]
    cases g ls h1 with
    | ok y h2 =>
      simp only [to_ok]
      cases ePairs r ls h2 <;> rfl
    | exc => rfl
    | bad => rfl
  | exc => rfl
  | bad => rfl
@[simp] theorem x_dct {ps : List (SE × SE)} : (eDct ps ls h).to Q E ↔ (ePairs ps ls h).to (fun kvs h2 => ∃ l, keysOf kvs = some l ∧ l.length ≤ 15 ∧ Q (.ref h2.nx) (h2.new (.dct (dMerge l)))) E := by
  unfold eDct
  cases ePairs ps ls h with
  | ok kvs h2 =>
    show R.to (match keysOf kvs with
      | some l => if l.length ≤ 15 then .ok (.ref h2.nx) (h2.new (.dct (dMerge l))) else .bad
      | none => .bad) Q E ↔ ∃ l, keysOf kvs = some l ∧ l.length ≤ 15 ∧ Q (.ref h2.nx) (h2.new (.dct (dMerge l)))
    cases e : keysOf kvs with
    | none => simp
    | some l => simp only [Option.some.injEq, exists_eq_left']; rw [to_ifb]; rfl
  | exc => rfl
  | bad => rfl
/-! ### tests -/
section
variable {Q : Bool → Heap → Prop}
@[simp] theorem y_val {f : SE} : (bVal f ls h).to Q E ↔ (f ls h).to (fun x h1 => ∃ b, x = .bl b ∧ Q b h1) E := by
  unfold bVal
  cases f ls h with
  | ok w h1 =>
    cases w with
    | bl b => simp only [tob_ok, to_ok]; exact ⟨fun q => ⟨b, rfl, q⟩, fun ⟨c, e, q⟩ => by cases e; exact q⟩
    | _ => simp
  | exc => rfl
  | bad => rfl
@[simp] theorem y_tru {f : SE} : (bTru f ls h).to Q E ↔ (f ls h).to (fun x h1 => ∃ b, wTru h1 x = some b ∧ Q b h1) E := by
  unfold bTru
  cases f ls h with
  | ok w h1 =>
    simp only [to_ok]
    split <;> rename_i e <;> simp [e]
  | exc => rfl
  | bad => rfl
@[simp] theorem y_and {f g : SB} : (bAnd f g ls h).to Q E ↔ (f ls h).to (fun b h1 => (b = true → (g ls h1).to Q E) ∧ (b = false → Q false h1)) E := by
  unfold bAnd
  cases f ls h with
  | ok b h1 => cases b <;> simp
  | exc => rfl
  | bad => rfl
@[simp] theorem y_or {f g : SB} : (bOr f g ls h).to Q E ↔ (f ls h).to (fun b h1 => (b = true → Q true h1) ∧ (b = false → (g ls h1).to Q E)) E := by
  unfold bOr
  cases f ls h with
  | ok b h1 => cases b <;> simp
  | exc => rfl
  | bad => rfl
@[simp] theorem y_not {f : SB} : (bNot f ls h).to Q E ↔ (f ls h).to (fun b h1 => Q (!b) h1) E := by
  unfold bNot
  cases f ls h <;> rfl
@[simp] theorem y_yes : (bYes ls h).to Q E ↔ Q true h := Iff.rfl
end
/-! ### sources -/
section
variable {Q : List W → List (Nat × List W) → Heap → Prop}
@[simp] theorem z_seq {f : SE} : (iSeq f ls h).to Q E ↔ (f ls h).to (fun x h1 => (∃ n xs, x = .ref n ∧ lstAt h1 n = some xs ∧ Q xs [(n, xs)] h1) ∨ (∃ xs, x = .tup xs ∧ Q xs [] h1) ∨ (∃ xs, x = .fl xs ∧ Q xs [] h1) ∨ ∃ s, x = .str s ∧ Q (s.cps.toList.map fun c => W.str ⟨#[c]⟩) [] h1) E := by
  unfold iSeq
  cases f ls h with
  | ok w h1 =>
    cases w with
    | ref n =>
      simp only [to_ok]
      cases e : lstAt h1 n <;> simp [e]
    | _ => simp
  | exc => rfl
  | bad => rfl
@[simp] theorem z_range1 {gs : SEs} : (iRange1 gs ls h).to Q E ↔ (gs ls h).to (fun xs h1 => ∃ j, xs = [.int j] ∧ smallR j = true ∧ Q (rangeW 0 j) [] h1) E := by
  unfold iRange1
  cases gs ls h with
  | ok xs h1 =>
    simp only [tos_ok]
    match xs with
    | [] => simp
    | [w] =>
      cases w with
      | int j =>
        simp only [List.cons.injEq, W.int.injEq, and_true, exists_eq_left']
        split <;> simp_all
      | _ => simp
    | w :: w' :: r => cases w <;> simp
  | exc => rfl
  | bad => rfl
@[simp] theorem z_range2 {gs : SEs} : (iRange2 gs ls h).to Q E ↔ (gs ls h).to (fun xs h1 => ∃ i j, xs = [.int i, .int j] ∧ (smallR i && smallR j) = true ∧ Q (rangeW i j) [] h1) E := by
  unfold iRange2
  cases gs ls h with
  | ok xs h1 =>
    simp only [tos_ok]
    match xs with
    | [] => simp
    | [w] => cases w <;> simp
    | [w, w'] =>
      cases w with
      | int i => cases w' with
        | int j =>
          simp only []
          by_cases c : (smallR i && smallR j) = true
          · rw [if_pos c]
            constructor
            · intro q; exact ⟨i, j, rfl, c, q⟩
            · rintro ⟨i', j', e, _, q⟩; cases e; exact q
          · rw [if_neg c]
            constructor
            · exact False.elim
            · rintro ⟨i', j', e, z, q⟩; cases e; exact c z
        | _ => simp
      | _ => simp
    | w :: w' :: _ :: r => cases w <;> cases w' <;> simp
  | exc => rfl
  | bad => rfl
@[simp] theorem z_enum {gs : SEs} : (iEnumW gs ls h).to Q E ↔ (gs ls h).to (fun xs h1 => (∃ n ys, xs = [.ref n] ∧ lstAt h1 n = some ys ∧ Q (enumFrom 0 ys) [(n, ys)] h1) ∨ ∃ ys, xs = [.fl ys] ∧ Q (enumFrom 0 ys) [] h1) E := by
  unfold iEnumW
  cases gs ls h with
  | ok xs h1 =>
    simp only [tos_ok]
    match xs with
    | [] => simp
    | [w] =>
      cases w with
      | ref n =>
        simp only []
        cases e : lstAt h1 n <;> simp [e]
      | _ => simp
    | w :: w' :: r => cases w <;> simp
  | exc => rfl
  | bad => rfl
end
/-! ### comprehensions -/
@[simp] theorem x_comp {vs : List Nat} {t : Tg} {src : SI} {cond : SB} {elt : SE} : (eComp vs t src cond elt ls h).to Q E ↔ (src ls h).to (fun xs g h1 => xs.length ≤ sizeLine ∧ (compL t g cond elt (wipeL ls vs) xs h1).to (fun ys h2 => Q (.ref h2.nx) (h2.new (.lst ys))) fun _ _ _ => False) E := by
  unfold eComp
  cases src ls h with
  | ok xs g h1 =>
    simp only [toi_ok]
    rw [to_ifb]
    apply and_congr Iff.rfl
    cases compL t g cond elt (wipeL ls vs) xs h1 <;> rfl
  | exc => rfl
  | bad => rfl
/-- one item -/
theorem comp_cons {t : Tg} {g : List (Nat × List W)} {cond : SB} {elt : SE} {x : W} {xs : List W} {Q : List W → Heap → Prop} : (compL t g cond elt ls (x :: xs) h).to Q (fun _ _ _ => False) ↔ gOk g h = true ∧ ∃ ls1, bindTg t x ls = some ls1 ∧ (cond ls1 h).to (fun b h2 =>
    (b = true → (elt ls1 h2).to (fun y h3 => (compL t g cond elt ls xs h3).to (fun ys h4 => Q (y :: ys) h4) fun _ _ _ => False) fun _ _ _ => False) ∧ (b = false → (compL t g cond elt ls xs h2).to Q fun _ _ _ => False)) fun _ _ _ => False := by
  rw [compL]
  by_cases hg : gOk g h = true
  · rw [if_pos hg]
    simp only [hg, true_and]
    cases bindTg t x ls with
    | none => simp
    | some ls1 =>
      simp only [Option.some.injEq, exists_eq_left']
      cases cond ls1 h with
      | ok b h2 =>
        cases b with
        | true =>
          simp only [tob_ok]
          cases elt ls1 h2 with
          | ok y h3 =>
            simp only [to_ok]
            cases compL t g cond elt ls xs h3 <;> simp
          | exc => simp
          | bad => simp
        | false => simp
      | exc => simp
      | bad => simp
  · rw [if_neg hg]; simp [hg]
theorem comp_nil {t : Tg} {g : List (Nat × List W)} {cond : SB} {elt : SE} {Q : List W → Heap → Prop} : (compL t g cond elt ls [] h).to Q (fun _ _ _ => False) ↔ gOk g h = true ∧ Q [] h := by
  rw [compL]
  by_cases hg : gOk g h = true
  · rw [if_pos hg]; simp [hg]
  · rw [if_neg hg]; simp [hg]
/-- a whole comprehension by an invariant over the items done -/
theorem comp_inv {t : Tg} {g : List (Nat × List W)} {cond : SB} {elt : SE} {Q : List W → Heap → Prop} (J : List W → List W → Heap → Prop) : ∀ (xs : List W) (acc : List W) (h : Heap), J xs acc h → (∀ x xs acc h, J (x :: xs) acc h → gOk g h = true ∧ ∃ ls1, bindTg t x ls = some ls1 ∧ (cond ls1 h).to (fun b h2 =>
    (b = true → (elt ls1 h2).to (fun y h3 => J xs (acc ++ [y]) h3) fun _ _ _ => False) ∧ (b = false → J xs acc h2)) fun _ _ _ => False) → (∀ acc h, J [] acc h → gOk g h = true ∧ Q acc h) → (compL t g cond elt ls xs h).to (fun ys h' => Q (acc ++ ys) h') fun _ _ _ => False
  | [], acc, h, j, st, fin => by rw [comp_nil]; simpa using fin acc h j
  | x :: xs, acc, h, j, st, fin => by
    rw [comp_cons]
    obtain ⟨h1, ls1, h2, h3⟩ := st x xs acc h j
    refine ⟨h1, ls1, h2, ?_⟩
    cases e : cond ls1 h with
    | ok b h4 =>
      rw [e] at h3
      refine ⟨fun hb => R.to_mono (h3.1 hb) (fun y h5 z => ?_) fun _ _ _ z => z, fun hb => comp_inv J xs acc h4 (h3.2 hb) st fin⟩
      have := comp_inv J xs (acc ++ [y]) h5 z st fin
      simpa using this
    | exc => rw [e] at h3; exact h3
    | bad => rw [e] at h3; exact h3
/-! ### statements -/
@[simp] theorem s_nil' : (sNil ls h).to P ↔ P.nx ls h := Iff.rfl
@[simp] theorem s_seq' {s t : SS} : (sSeq s t ls h).to P ↔ (s ls h).to { P with nx := fun ls1 h1 => (t ls1 h1).to P } := by
  unfold sSeq; cases s ls h <;> rfl
@[simp] theorem s_asg' {f : SE} {g : SG} : (sAsg f g ls h).to P ↔ (f ls h).to (fun w h1 => (g w ls h1).to P) fun c fs h1 => P.ex c fs ls h1 := by
  unfold sAsg; cases f ls h <;> rfl
@[simp] theorem s_gnm' {i : Nat} {w : W} : (gNm i w ls h).to P ↔ P.nx (ls.set i (some w)) h := Iff.rfl
@[simp] theorem s_gsb' {f g : SE} {w : W} : (gSb f g w ls h).to P ↔ (f ls h).to (fun x h1 => (g ls h1).to (fun y h2 => ∃ h3, wSet x y w h2 = some h3 ∧ P.nx ls h3) fun c fs h1 => P.ex c fs ls h1) fun c fs h1 => P.ex c fs ls h1 := by
  unfold gSb
  cases f ls h with
  | ok x h1 =>
    simp only [to_ok]
    cases g ls h1 with
    | ok y h2 =>
      simp only [to_ok]
      cases wSet x y w h2 <;> simp
    | exc => rfl
    | bad => rfl
  | exc => rfl
  | bad => rfl
@[simp] theorem s_gtp' {gs : List SG} {w : W} : (gTp gs w ls h).to P ↔ ∃ xs, w = .tup xs ∧ xs.length = gs.length ∧ (gEach gs xs ls h).to P := by
  cases w with
  | tup xs =>
    simp only [gTp, W.tup.injEq, exists_eq_left']
    split <;> simp_all
  | _ => simp [gTp]
@[simp] theorem s_each' {g : SG} {gs : List SG} {w : W} {ws : List W} : (gEach (g :: gs) (w :: ws) ls h).to P ↔ (g w ls h).to { P with nx := fun ls1 h1 => (gEach gs ws ls1 h1).to P } := by
  rw [gEach]; cases g w ls h <;> rfl
@[simp] theorem s_each0' : (gEach [] [] ls h).to P ↔ P.nx ls h := Iff.rfl
@[simp] theorem s_expr' {f : SE} : (sExpr f ls h).to P ↔ (f ls h).to (fun w h1 => P.nx ls h1) fun c fs h1 => P.ex c fs ls h1 := by unfold sExpr; rw [s_asg']; rfl
@[simp] theorem s_ret' {f : SE} : (sRet f ls h).to P ↔ (f ls h).to (fun w h1 => P.rt w h1) fun c fs h1 => P.ex c fs ls h1 := by unfold sRet; rw [s_asg']; rfl
@[simp] theorem s_retN' : (sRetN ls h).to P ↔ P.rt .non h := Iff.rfl
@[simp] theorem s_brk' : (sBrk ls h).to P ↔ P.bk ls h := Iff.rfl
@[simp] theorem s_cnt' : (sCnt ls h).to P ↔ P.ct ls h := Iff.rfl
@[simp] theorem s_if' {t : SB} {a b : SS} : (sIf t a b ls h).to P ↔ (t ls h).to (fun c h1 => (c = true → (a ls h1).to P) ∧ (c = false → (b ls h1).to P)) fun c fs h1 => P.ex c fs ls h1 := by
  unfold sIf
  cases t ls h with
  | ok c h1 => cases c <;> simp
  | exc => rfl
  | bad => rfl
@[simp] theorem s_par2' {i j : Nat} {gs : SEs} : (sPar2 i j gs ls h).to P ↔ (gs ls h).to (fun xs h1 => ∃ v w, xs = [v, w] ∧ P.nx ((ls.set i (some v)).set j (some w)) h1) fun c fs h1 => P.ex c fs ls h1 := by
  unfold sPar2
  cases gs ls h with
  | ok xs h1 =>
    match xs with
    | [] => simp
    | [_] => simp
    | [v, w] =>
      simp only [tos_ok, toS_nx]
      constructor
      · intro q; exact ⟨v, w, rfl, q⟩
      · rintro ⟨v', w', e, q⟩; cases e; exact q
    | _ :: _ :: _ :: _ => simp
  | exc => rfl
  | bad => rfl
@[simp] theorem s_for' {t : Tg} {src : SI} {b : SS} : (sFor t src b ls h).to P ↔ (src ls h).to (fun xs g h1 => (forL t b g xs ls h1).to P) fun c fs h1 => P.ex c fs ls h1 := by
  unfold sFor; cases src ls h <;> rfl
theorem for_nil {t : Tg} {g : List (Nat × List W)} {b : SS} : (forL t b g [] ls h).to P ↔ gOk g h = true ∧ P.nx ls h := by
  rw [forL]; split <;> simp_all
theorem for_cons {t : Tg} {g : List (Nat × List W)} {b : SS} {x : W} {xs : List W} : (forL t b g (x :: xs) ls h).to P ↔ gOk g h = true ∧ ∃ ls1, bindTg t x ls = some ls1 ∧ (b ls1 h).to { nx := fun ls2 h2 => (forL t b g xs ls2 h2).to P, ct := fun ls2 h2 => (forL t b g xs ls2 h2).to P, bk := P.nx, rt := P.rt, ex := P.ex } := by
  rw [forL]
  by_cases hg : gOk g h = true
  · rw [if_pos hg]
    cases bindTg t x ls with
    | none => simp
    | some ls1 =>
      simp only [hg, Option.some.injEq, exists_eq_left', true_and]
      cases b ls1 h <;> rfl
  · rw [if_neg hg]; simp [hg]
theorem for_inv {t : Tg} {g : List (Nat × List W)} {b : SS} (J : List W → Ls → Heap → Prop) : ∀ (xs : List W) (ls : Ls) (h : Heap), J xs ls h →
    (∀ x xs ls h, J (x :: xs) ls h → gOk g h = true ∧ ∃ ls1, bindTg t x ls = some ls1 ∧ (b ls1 h).to { nx := fun ls2 h2 => J xs ls2 h2, ct := fun ls2 h2 => J xs ls2 h2, bk := P.nx, rt := P.rt, ex := P.ex }) →
    (∀ ls h, J [] ls h → gOk g h = true ∧ P.nx ls h) → (forL t b g xs ls h).to P
  | [], ls, h, j, _, fin => by rw [for_nil]; exact fin ls h j
  | x :: xs, ls, h, j, st, fin => by
    rw [for_cons]
    obtain ⟨h1, ls1, h2, h3⟩ := st x xs ls h j
    exact ⟨h1, ls1, h2, SR.to_mono h3 (fun ls2 h4 z => for_inv J xs ls2 h4 z st fin) (fun _ _ z => z) (fun _ _ z => z) (fun ls2 h4 z => for_inv J xs ls2 h4 z st fin) fun _ _ _ _ z => z⟩
@[simp] theorem fn_to {n m : Nat} {s : SS} {ws : List W} : (fnOf n m s ws h).to Q E ↔ ws.length = n ∧ (s (ws.map some ++ List.replicate (m - n) none) h).to { nx := fun _ h' => Q .non h', rt := Q, bk := fun _ _ => False, ct := fun _ _ => False, ex := fun c fs _ h' => E c fs h' } := by
  unfold fnOf
  rw [to_ifb]
  apply and_congr Iff.rfl
  cases s (ws.map some ++ List.replicate (m - n) none) h <;> rfl
end
end Ev
set_option maxRecDepth 100000
/-! EvOpS: what must hold of the operands: iff by iff, for simp. -/
namespace Ev
open PySem L2
section
variable {h h3 : Heap} {Q : W → Heap → Prop} {E : Nat → List (Nat × W) → Heap → Prop}
@[simp] theorem o_add_int {i j : Int} : (wAdd (.int i) (.int j) h).to Q E ↔ Q (.int (i + j)) h := Iff.rfl
@[simp] theorem o_add_str {s t : Str} : (wAdd (.str s) (.str t) h).to Q E ↔ s.length + t.length ≤ sizeLine ∧ Q (.str (s ++ t)) h := by unfold wAdd; rw [to_ifb]; rfl
@[simp] theorem o_add_tup {s t : List W} : (wAdd (.tup s) (.tup t) h).to Q E ↔ s.length + t.length ≤ sizeLine ∧ Q (.tup (s ++ t)) h := by unfold wAdd; rw [to_ifb]; rfl
@[simp] theorem o_add_lst {n m : Nat} : (wAdd (.ref n) (.ref m) h).to Q E ↔ ∃ xs ys, h.get n = some (.lst xs) ∧ h.get m = some (.lst ys) ∧ xs.length + ys.length ≤ sizeLine ∧ Q (.ref h.nx) (h.new (.lst (xs ++ ys))) := by
  show R.to (match h.get n, h.get m with
    | some (.lst xs), some (.lst ys) => if xs.length + ys.length ≤ sizeLine then .ok (.ref h.nx) (h.new (.lst (xs ++ ys))) else .bad
    | _, _ => .bad) Q E ↔ _
  split
  · rename_i xs ys e1 e2
    rw [to_ifb]
    constructor
    · rintro ⟨z, q⟩; exact ⟨xs, ys, e1, e2, z, q⟩
    · rintro ⟨xs', ys', e1', e2', z, q⟩
      rw [e1] at e1'; rw [e2] at e2'; cases e1'; cases e2'; exact ⟨z, q⟩
  · rename_i n1
    constructor
    · exact False.elim
    · rintro ⟨xs, ys, e1, e2, _⟩; exact (n1 xs ys e1 e2).elim
@[simp] theorem o_sub_int {i j : Int} : (wSub (.int i) (.int j) h).to Q E ↔ Q (.int (i - j)) h := Iff.rfl
@[simp] theorem o_mul_int {i j : Int} : (wMul (.int i) (.int j) h).to Q E ↔ (smallI i = true ∨ smallI j = true) ∧ Q (.int (i * j)) h := by unfold wMul; rw [to_ifb, Bool.or_eq_true]; rfl
@[simp] theorem o_mod_int {i j : Int} : (wMod (.int i) (.int j) h).to Q E ↔ 0 < j ∧ Q (.int (i % j)) h := by unfold wMod; rw [to_ifb]; rfl
@[simp] theorem o_fdv_int {i j : Int} : (wFdv (.int i) (.int j) h).to Q E ↔ (0 < j ∧ j < 1073741824) ∧ Q (.int (i / j)) h := by unfold wFdv; rw [to_ifb]; rfl
@[simp] theorem o_pow_int {i j : Int} : (wPow (.int i) (.int j) h).to Q E ↔ (0 ≤ j ∧ j ≤ 1000000 ∧ i.natAbs < 2 ^ 64) ∧ Q (.int (i ^ j.toNat)) h := by unfold wPow; rw [to_ifb]; rfl
@[simp] theorem o_neg_int {i : Int} : (wNeg (.int i) h).to Q E ↔ Q (.int (-i)) h := Iff.rfl
@[simp] theorem o_lt_int {i j : Int} : (wLt2 (.int i) (.int j) h).to Q E ↔ Q (.bl (decide (i < j))) h := Iff.rfl
@[simp] theorem o_le_int {i j : Int} : (wLe2 (.int i) (.int j) h).to Q E ↔ Q (.bl (decide (i ≤ j))) h := Iff.rfl
@[simp] theorem o_gt_int {i j : Int} : (wGt2 (.int i) (.int j) h).to Q E ↔ Q (.bl (decide (j < i))) h := Iff.rfl
@[simp] theorem o_ge_int {i j : Int} : (wGe2 (.int i) (.int j) h).to Q E ↔ Q (.bl (decide (j ≤ i))) h := Iff.rfl
@[simp] theorem o_le_str {s t : Str} : (wLe2 (.str s) (.str t) h).to Q E ↔ Q (.bl (!decide (t.cps.toList < s.cps.toList))) h := Iff.rfl
@[simp] theorem o_lt_str {s t : Str} : (wLt2 (.str s) (.str t) h).to Q E ↔ Q (.bl (decide (s.cps.toList < t.cps.toList))) h := Iff.rfl
@[simp] theorem o_eq {x y : W} : (wEq x y h).to Q E ↔ ∃ b, eqO h x y = some b ∧ Q (.bl b) h := by
  unfold wEq; cases eqO h x y <;> simp
@[simp] theorem o_ne {x y : W} : (wNe x y h).to Q E ↔ ∃ b, eqO h x y = some b ∧ Q (.bl (!b)) h := by
  unfold wNe; cases eqO h x y <;> simp
@[simp] theorem o_in {x y : W} : (wIn x y h).to Q E ↔ ∃ b, inO h x y = some b ∧ Q (.bl b) h := by
  unfold wIn; cases inO h x y <;> simp
@[simp] theorem o_nin {x y : W} : (wNin x y h).to Q E ↔ ∃ b, inO h x y = some b ∧ Q (.bl (!b)) h := by
  unfold wNin; cases inO h x y <;> simp
@[simp] theorem o_is {x y : W} : (wIs x y h).to Q E ↔ ∃ b, isO x y = some b ∧ Q (.bl b) h := by
  unfold wIs; cases isO x y <;> simp
@[simp] theorem o_isnt {x y : W} : (wIsnt x y h).to Q E ↔ ∃ b, isO x y = some b ∧ Q (.bl (!b)) h := by
  unfold wIsnt; cases isO x y <;> simp
@[simp] theorem o_isN {x : W} : isO x .non = some (W.eqb x .non) := by cases x <;> rfl
@[simp] theorem o_isB {a b : Bool} : isO (.bl a) (.bl b) = some (decide (a = b)) := rfl
@[simp] theorem lstAt_iff {n : Nat} {xs : List W} : lstAt h n = some xs ↔ h.get n = some (.lst xs) := by
  unfold lstAt
  cases h.get n with
  | none => simp
  | some o => cases o <;> simp
@[simp] theorem o_ix_str {n : Nat} {s : Str} : (wIx (.ref n) (.str s) h).to Q E ↔ ∃ kvs w, h.get n = some (.dct kvs) ∧ dGet kvs (.inr s) = some w ∧ Q w h := by
  show R.to (match h.get n with
    | some (.dct kvs) => match keyOf (.str s) with
      | some k => match dGet kvs k with
        | some w => .ok w h
        | none => .bad
      | none => .bad
    | _ => match W.str s, lstAt h n with
      | .int i, some xs => match atI xs i with
        | some w => .ok w h
        | none => .bad
      | _, _ => .bad) Q E ↔ _
  split
  · rename_i kvs e
    simp only [keyOf, e, Option.some.injEq, Ob.dct.injEq]
    cases e2 : dGet kvs (.inr s) with
    | none => simp [e2]
    | some w => simp [e2]
  · rename_i n1
    constructor
    · exact False.elim
    · rintro ⟨kvs, w, e, _⟩; exact (n1 kvs e).elim
@[simp] theorem o_ix_int {n : Nat} {i : Int} : (wIx (.ref n) (.int i) h).to Q E ↔ (∃ xs w, h.get n = some (.lst xs) ∧ atI xs i = some w ∧ Q w h) ∨ ∃ kvs w, h.get n = some (.dct kvs) ∧ dGet kvs (.inl i) = some w ∧ Q w h := by
  show R.to (match h.get n with
    | some (.dct kvs) => match keyOf (.int i) with
      | some k => match dGet kvs k with
        | some w => .ok w h
        | none => .bad
      | none => .bad
    | _ => match W.int i, lstAt h n with
      | .int i, some xs => match atI xs i with
        | some w => .ok w h
        | none => .bad
      | _, _ => .bad) Q E ↔ _
  split
  · rename_i kvs e
    simp only [keyOf, e, Option.some.injEq, Ob.dct.injEq]
    cases e2 : dGet kvs (.inl i) with
    | none => simp [e2]
    | some w => simp [e2]
  · rename_i n1
    have aux : ∀ o : Option (List W), o = lstAt h n → (R.to (match W.int i, o with
      | .int i, some xs => match atI xs i with
        | some w => .ok w h
        | none => .bad
      | _, _ => .bad) Q E ↔ ∃ xs w, lstAt h n = some xs ∧ atI xs i = some w ∧ Q w h) := fun o eo => by
      cases o with
      | none => rw [← eo]; simp
      | some xs =>
        rw [← eo]
        cases e2 : atI xs i <;> simp [e2]
    refine (aux _ rfl).trans ?_
    simp only [lstAt_iff]
    constructor
    · exact .inl
    · rintro (z | ⟨kvs, w, e, _⟩)
      · exact z
      · exact (n1 kvs e).elim
@[simp] theorem o_ix_tup {xs : List W} {i : Int} : (wIx (.tup xs) (.int i) h).to Q E ↔ ∃ w, atI xs i = some w ∧ Q w h := by
  show R.to (match atI xs i with | some w => .ok w h | none => .bad) Q E ↔ _; split <;> rename_i e <;> simp [e]
@[simp] theorem o_ix_fl {xs : List W} {i : Int} : (wIx (.fl xs) (.int i) h).to Q E ↔ ∃ w, atI xs i = some w ∧ Q w h := by
  show R.to (match atI xs i with | some w => .ok w h | none => .bad) Q E ↔ _; split <;> rename_i e <;> simp [e]
@[simp] theorem o_ix_s {s : Str} {i : Int} : (wIx (.str s) (.int i) h).to Q E ↔ s.length ≤ sizeLine ∧ ∃ c, atI s.cps.toList i = some c ∧ Q (.str ⟨#[c]⟩) h := by
  unfold wIx; rw [to_ifb]; cases atI s.cps.toList i <;> simp
@[simp] theorem o_set_str {n : Nat} {s : Str} {w : W} : wSet (.ref n) (.str s) w h = some h3 ↔ ∃ kvs, h.get n = some (.dct kvs) ∧ kvs.length < sizeLine ∧ h.put n (.dct (dPut kvs (.inr s) w)) = h3 := by
  show (match h.get n with
    | some (.dct kvs) => match keyOf (.str s) with
      | some k => if kvs.length < sizeLine then some (h.put n (.dct (dPut kvs k w))) else none
      | none => none
    | some (.lst xs) => match W.str s with
      | .int i => match ixN xs.length i with
        | some j => some (h.put n (.lst (xs.set j w)))
        | none => none
      | _ => none
    | _ => none) = some h3 ↔ _
  split
  · rename_i kvs e
    simp [keyOf, e]
  · rename_i xs e
    simp [e]
  · rename_i n1 n2
    constructor
    · intro z; cases z
    · rintro ⟨kvs, e, _⟩; exact (n1 kvs e).elim
@[simp] theorem o_set_int {n : Nat} {i : Int} {w : W} : wSet (.ref n) (.int i) w h = some h3 ↔ (∃ xs j, h.get n = some (.lst xs) ∧ ixN xs.length i = some j ∧ h.put n (.lst (xs.set j w)) = h3) ∨ ∃ kvs, h.get n = some (.dct kvs) ∧ kvs.length < sizeLine ∧ h.put n (.dct (dPut kvs (.inl i) w)) = h3 := by
  show (match h.get n with
    | some (.dct kvs) => match keyOf (.int i) with
      | some k => if kvs.length < sizeLine then some (h.put n (.dct (dPut kvs k w))) else none
      | none => none
    | some (.lst xs) => match W.int i with
      | .int i => match ixN xs.length i with
        | some j => some (h.put n (.lst (xs.set j w)))
        | none => none
      | _ => none
    | _ => none) = some h3 ↔ _
  split
  · rename_i kvs e
    simp [keyOf, e]
  · rename_i xs e
    cases z : ixN xs.length i <;> simp [e, z]
  · rename_i n1 n2
    constructor
    · intro z; cases z
    · rintro (⟨xs, j, e, _⟩ | ⟨kvs, e, _⟩)
      · exact (n2 xs e).elim
      · exact (n1 kvs e).elim
@[simp] theorem o_len_str {s : Str} : (bLen [.str s] h).to Q E ↔ s.length ≤ sizeLine ∧ Q (.int s.length) h := by unfold bLen; rw [to_ifb]; rfl
@[simp] theorem o_len_tup {xs : List W} : (bLen [.tup xs] h).to Q E ↔ Q (.int xs.length) h := Iff.rfl
@[simp] theorem o_len_fl {xs : List W} : (bLen [.fl xs] h).to Q E ↔ Q (.int xs.length) h := Iff.rfl
@[simp] theorem o_len_ref {n : Nat} : (bLen [.ref n] h).to Q E ↔ ∃ xs, h.get n = some (.lst xs) ∧ Q (.int xs.length) h := by
  simp only [← lstAt_iff]
  show R.to (match lstAt h n with | some xs => .ok (.int xs.length) h | none => .bad) Q E ↔ _
  cases lstAt h n <;> simp
@[simp] theorem o_max {i j : Int} : (bMax2 [.int i, .int j] h).to Q E ↔ Q (.int (if j > i then j else i)) h := Iff.rfl
@[simp] theorem o_min {i j : Int} : (bMin2 [.int i, .int j] h).to Q E ↔ Q (.int (if j < i then j else i)) h := Iff.rfl
@[simp] theorem o_ord {s : Str} : (bOrd [.str s] h).to Q E ↔ s.length = 1 ∧ Q (.int (s.cps.getD 0 0 : Nat)) h := by unfold bOrd; rw [to_ifb]; rfl
@[simp] theorem o_all {w : W} : (bAll [w] h).to Q E ↔ ∃ xs bs, seqW h w = some xs ∧ blsOf xs = some bs ∧ Q (.bl (bs.all id)) h := by
  show R.to (match (seqW h w).bind blsOf with | some bs => .ok (.bl (bs.all id)) h | none => .bad) Q E ↔ _
  split
  · rename_i bs e
    obtain ⟨xs, e1, e2⟩ := Option.bind_eq_some_iff.mp e
    simp [e1, e2]
  · rename_i e
    constructor
    · exact False.elim
    · rintro ⟨xs, bs, e1, e2, _⟩
      rw [e1, Option.bind_some, e2] at e
      cases e
@[simp] theorem o_any {w : W} : (bAny [w] h).to Q E ↔ ∃ xs bs, seqW h w = some xs ∧ blsOf xs = some bs ∧ Q (.bl (bs.any id)) h := by
  show R.to (match (seqW h w).bind blsOf with | some bs => .ok (.bl (bs.any id)) h | none => .bad) Q E ↔ _
  split
  · rename_i bs e
    obtain ⟨xs, e1, e2⟩ := Option.bind_eq_some_iff.mp e
    simp [e1, e2]
  · rename_i e
    constructor
    · exact False.elim
    · rintro ⟨xs, bs, e1, e2, _⟩
      rw [e1, Option.bind_some, e2] at e
      cases e
@[simp] theorem seqW_ref {n : Nat} {xs : List W} : seqW h (.ref n) = some xs ↔ h.get n = some (.lst xs) := lstAt_iff
@[simp] theorem seqW_fl {xs ys : List W} : seqW h (.fl xs) = some ys ↔ xs = ys := by simp [seqW]
@[simp] theorem o_isi {cl : Ty → W → Option Bool} {x c : W} : (bIsi cl [x, c] h).to Q E ↔ ∃ t b, tyOf h x = some t ∧ isiO cl t c = some b ∧ Q (.bl b) h := by
  show R.to (match tyOf h x with
    | some t => match isiO cl t c with
      | some b => .ok (.bl b) h
      | none => .bad
    | none => .bad) Q E ↔ _
  split
  · rename_i t e
    split
    · rename_i b e2
      constructor
      · intro q; exact ⟨t, b, e, e2, q⟩
      · rintro ⟨t', b', a1, a2, q⟩
        rw [e] at a1; cases a1; rw [e2] at a2; cases a2; exact q
    · rename_i e2
      constructor
      · exact False.elim
      · rintro ⟨t', b', a1, a2, q⟩
        rw [e] at a1; cases a1; rw [e2] at a2; cases a2
  · rename_i e
    constructor
    · exact False.elim
    · rintro ⟨t', b', a1, a2, q⟩
      rw [e] at a1; cases a1
theorem to_iff {r : R} : r.to Q E ↔ (∃ w h, r = .ok w h ∧ Q w h) ∨ ∃ c fs h, r = .exc c fs h ∧ E c fs h := by
  cases r with
  | ok w h => exact ⟨fun q => .inl ⟨w, h, rfl, q⟩, fun z => by rcases z with ⟨_, _, e, q⟩ | ⟨_, _, _, e, _⟩ <;> cases e; exact q⟩
  | exc c fs h => exact ⟨fun q => .inr ⟨c, fs, h, rfl, q⟩, fun z => by rcases z with ⟨_, _, e, q⟩ | ⟨_, _, _, e, q⟩ <;> cases e; exact q⟩
  | bad => exact ⟨False.elim, fun z => by rcases z with ⟨_, _, e, q⟩ | ⟨_, _, _, e, q⟩ <;> cases e⟩
@[simp] theorem truBl {b : Bool} : wTru h (.bl b) = some b := rfl
theorem smallI_lit {i : Int} : smallI i = true ↔ -(2 ^ 64) < i ∧ i < 2 ^ 64 := by simp [smallI]
theorem dGet_cons {k k' : Key} {w : W} {r : List (Key × W)} : dGet ((k, w) :: r) k' = if k = k' then some w else dGet r k' := by
  unfold dGet
  by_cases e : k = k' <;> simp [e]
theorem isi_ss : isiO clNo (.b "str") (.ty "str") = some true := by decide +kernel
theorem isi_is : isiO clNo (.b "int") (.ty "str") = some false := by decide +kernel
theorem isi_bs : isiO clNo (.b "bool") (.ty "str") = some false := by decide +kernel
theorem isi_ns : isiO clNo (.b "NoneType") (.ty "str") = some false := by decide +kernel
theorem isi_ls : isiO clNo (.b "list") (.ty "str") = some false := by decide +kernel
theorem isi_ts : isiO clNo (.b "tuple") (.ty "str") = some false := by decide +kernel
theorem isi_ds : isiO clNo (.b "dict") (.ty "str") = some false := by decide +kernel
end
end Ev
set_option maxRecDepth 100000
/-! EvDraw: the laws' drawing of numbers. -/
namespace Ev
open PySem L2
/-- but for S, what stood stands -/
def Kp (S : List Nat) (h h' : Heap) : Prop := h.nx ≤ h'.nx ∧ ∀ n, n < h.nx → n ∉ S → h'.get n = h.get n
theorem Kp.refl (S : List Nat) (h : Heap) : Kp S h h := ⟨Nat.le_refl _, fun _ _ _ => rfl⟩
theorem Kp.trans {S : List Nat} {h h1 h2 : Heap} (a : Kp S h h1) (b : Kp S h1 h2) : Kp S h h2 := ⟨Nat.le_trans a.1 b.1, fun n l m => (b.2 n (Nat.lt_of_lt_of_le l a.1) m).trans (a.2 n l m)⟩
theorem Kp.mono {S S' : List Nat} {h h1 : Heap} (a : Kp S h h1) (s : ∀ n ∈ S, n ∈ S') : Kp S' h h1 := ⟨a.1, fun n l m => a.2 n l fun z => m (s n z)⟩
theorem Kp.new (S : List Nat) (h : Heap) (o : Ob) : Kp S h (h.new o) := ⟨Nat.le_succ _, fun n l _ => Heap.new_ne (Nat.ne_of_lt l)⟩
theorem Kp.put {S : List Nat} {n : Nat} (h : Heap) (o : Ob) (m : n ∈ S) : Kp S h (h.put n o) := ⟨Nat.le_refl _, fun k _ z => Heap.put_ne fun e => z (e ▸ m)⟩
/-- a draw: the dict at d, the great numbers at g -/
structure Drw (key : Str) (h : Heap) (d g : Nat) : Prop where
  dct : ∃ m t : Int, h.get d = some (.dct [(.inr key, .int m), (.inr "great", .ref g), (.inr "turn", .int t)])
  lst : ∃ gl : List Int, h.get g = some (.lst (gl.map W.int)) ∧ gl.length ≤ 63
  ld : d < h.nx
  lg : g < h.nx
  ne : d ≠ g
theorem Drw.new {key : Str} {h : Heap} {d g : Nat} (D : Drw key h d g) (o : Ob) : Drw key (h.new o) d g := by
  obtain ⟨⟨m, t, ed⟩, ⟨gl, eg, hl⟩, l1, l2, ne⟩ := D
  exact ⟨⟨m, t, by rw [Heap.new_ne (Nat.ne_of_lt l1)]; exact ed⟩, ⟨gl, by rw [Heap.new_ne (Nat.ne_of_lt l2)]; exact eg, hl⟩, Nat.lt_succ_of_lt l1, Nat.lt_succ_of_lt l2, ne⟩
theorem Drw.put {key : Str} {h : Heap} {d g : Nat} (D : Drw key h d g) {n : Nat} (o : Ob) (h1 : n ≠ d) (h2 : n ≠ g) : Drw key (h.put n o) d g := by
  obtain ⟨⟨m, t, ed⟩, ⟨gl, eg, hl⟩, l1, l2, ne⟩ := D
  exact ⟨⟨m, t, by rw [Heap.put_ne h1.symm]; exact ed⟩, ⟨gl, by rw [Heap.put_ne h2.symm]; exact eg, hl⟩, l1, l2, ne⟩
/-- what keeps all but new things keeps the draw -/
theorem Drw.kp {key : Str} {h h' : Heap} {d g : Nat} (D : Drw key h d g) (k : Kp [] h h') : Drw key h' d g := by
  obtain ⟨⟨m, t, ed⟩, ⟨gl, eg, hl⟩, l1, l2, ne⟩ := D
  exact ⟨⟨m, t, by rw [k.2 d l1 (by simp)]; exact ed⟩, ⟨gl, by rw [k.2 g l2 (by simp)]; exact eg, hl⟩, Nat.lt_of_lt_of_le l1 k.1, Nat.lt_of_lt_of_le l2 k.1, ne⟩
theorem Kp.get {S : List Nat} {h h' : Heap} (k : Kp S h h') {n : Nat} {o : Ob} (e : h.get n = some o) (l : n < h.nx) (m : n ∉ S) : h'.get n = some o := (k.2 n l m).trans e
def s_next (key : Str) (c1 c2 c3 c4 : Int) : SS := sSeq (sAsg (eTup (aCons (eBin wAdd (eBin wIx (eVar 0) (eW (.str "turn"))) (eW (.int 1))) (aCons (eBin wIx (eVar 0) (eW (.str "great"))) (aNil)))) (gTp [gSb (eVar 0) (eW (.str "turn")), gNm 2])) (sSeq (sAsg (eBin wMod (eBin wIx (eVar 0) (eW (.str "turn"))) (eB bMax2 (aCons (eW (.int 1)) (aCons (eB bLen (aCons (eVar 2) (aNil))) (aNil))))) (gNm 3)) (sSeq (sIf (bAnd (bVal (eBin wNe (eVar 2) (eLst (aNil)))) (bVal (eBin wGt2 (eBin wIx (eVar 2) (eVar 3)) (eW (.int 0))))) (sSeq (sAsg (eBin wMod (eBin wIx (eVar 2) (eVar 3)) (eVar 1)) (gNm 4)) (sSeq (sAsg (eBin wFdv (eBin wIx (eVar 2) (eVar 3)) (eVar 1)) (gSb (eVar 2) (eVar 3))) (sRet (eVar 4)))) (sNil)) (sSeq (sAsg (eBin wAdd (eBin wAdd (eBin wMul (eBin wIx (eVar 0) (eW (.str key))) (eW (.int c1))) (eBin wMul (eW (.int c2)) (eBin wIx (eVar 0) (eW (.str "turn"))))) (eW (.int 11))) (gNm 5)) (sSeq (sAsg (eBin wMod (eVar 5) (eW (.int c3))) (gSb (eVar 0) (eW (.str key)))) (sRet (eBin wMod (eBin wFdv (eBin wIx (eVar 0) (eW (.str key))) (eW (.int c4))) (eVar 1)))))))
@[irreducible] def F_next (key : Str) (c1 c2 c3 c4 : Int) : List W → Heap → R := fnOf 2 6 (s_next key c1 c2 c3 c4)
theorem eq_nil {h : Heap} {n m : Nat} {xs : List W} (e1 : h.get n = some (.lst xs)) (e2 : h.get m = some (.lst [])) : eqO h (.ref n) (.ref m) = some xs.isEmpty := by
  have l1 := lstAt_iff.mpr e1
  have l2 := lstAt_iff.mpr e2
  simp only [eqO, seqW, l1, l2]
  cases xs with
  | nil =>
    simp only [List.length_nil, if_true, dataEq, toD, l1, l2, allO, Option.map_some]
    rfl
  | cons x xs => simp
@[simp] theorem eqO_int {h : Heap} {i j : Int} : eqO h (.int i) (.int j) = some (i == j) := by
  show (if (true && true) = true then some (PyData.eqv (.int i) (.int j)) else none) = _
  simp [PyData.eqv]
theorem eqO_str {h : Heap} {s t : Str} (h1 : PyData.strOk s = true) (h2 : PyData.strOk t = true) : eqO h (.str s) (.str t) = some (s == t) := by
  show (if (SeqAt.shaped (.str s) && SeqAt.shaped (.str t)) = true then some (PyData.eqv (.str s) (.str t)) else none) = _
  have e : ∀ x, PyData.strOk x = true → SeqAt.shaped (.str x) = true := fun x hx => by simp [SeqAt.shaped, PyData.canLay0, PyData.depth, hx]
  rw [e s h1, e t h2]
  simp [PyData.eqv]
theorem atI_lt {α : Type} {xs : List α} {i : Int} (h0 : 0 ≤ i) (h1 : i < xs.length) : ∃ x, atI xs i = some x ∧ x ∈ xs := by
  unfold atI ixN
  rw [if_pos h0, if_pos h1]
  have : i.toNat < xs.length := by omega
  exact ⟨xs[i.toNat], by simp [this], List.getElem_mem this⟩
theorem atI_map {α β : Type} {f : α → β} {xs : List α} {i : Int} {x : α} (h : atI xs i = some x) : atI (xs.map f) i = some (f x) := by
  unfold atI at h ⊢
  obtain ⟨j, e1, e2⟩ := Option.bind_eq_some_iff.mp h
  rw [List.length_map, e1]
  simp [e2]
theorem s_gt : (("great" : Str) = ("turn" : Str)) = False := by decide
theorem s_tg : (("turn" : Str) = ("great" : Str)) = False := by decide
theorem next_to {key : Str} {c1 c2 c3 c4 : Int} {h : Heap} {d g : Nat} {b : Int} {Q : W → Heap → Prop} {E : Nat → List (Nat × W) → Heap → Prop} (D : Drw key h d g) (hb : 0 < b) (hb2 : b < 1073741824)
    (hk : key ≠ "great" := by decide) (hk2 : key ≠ "turn" := by decide) (k1 : smallI c1 = true := by decide) (k2 : smallI c2 = true := by decide) (k3 : 0 < c3 := by decide) (k4 : 0 < c4 ∧ c4 < 1073741824 := by decide)
    (q : ∀ r h', 0 ≤ r → r < b → Drw key h' d g → Kp [d, g] h h' → Q (.int r) h') : (F_next key c1 c2 c3 c4 [.ref d, .int b] h).to Q E := by
  obtain ⟨⟨m, t, ed⟩, ⟨gl, eg, hl⟩, ld, lg, ne⟩ := D
  have hd := Nat.ne_of_lt ld
  have hg := Nat.ne_of_lt lg
  have ne2 := ne.symm
  have e0 : ∀ (h' : Heap) (m : Nat), h'.get g = some (.lst (gl.map W.int)) → h'.get m = some (.lst []) → eqO h' (.ref g) (.ref m) = some (gl.map W.int).isEmpty := fun h' m => eq_nil
  have z2 : 2 ≤ sizeLine := by rw [sizeLine_eq]; decide
  have z3 : 3 < sizeLine := by rw [sizeLine_eq]; decide
  unfold F_next s_next
  have hkk := hk.symm
  have hkk2 := hk2.symm
  obtain ⟨k4a, k4b⟩ := k4
  have pos : 0 < (if 1 < (gl.length : Int) then (gl.length : Int) else 1) := by split <;> omega
  have low : ∀ x y : Int, 0 ≤ x / y % b ∧ x / y % b < b := fun x y => ⟨Int.emod_nonneg _ (by omega), Int.emod_lt_of_pos _ hb⟩
  by_cases hgl : gl = []
  · subst hgl
    simp [ed, eg, dGet_cons, dPut, hk, hk2, hkk, hkk2, Heap.new_get, Heap.put_get, ne, ne2, hd, hg, s_gt, s_tg, e0, z2, z3, k1, k2, k3, k4a, k4b, hb, hb2]
    refine q _ _ (low _ _).1 (low _ _).2 ⟨⟨_, t + 1, by simp [Heap.put_get]; rfl⟩, ⟨[], by simp [Heap.put_get, Heap.new_get, ne2, hg, eg], by simp⟩, by simp; omega, by simp; omega, ne⟩ ?_
    exact (((Kp.put h _ (by simp)).trans (Kp.new _ _ _)).trans (Kp.put _ _ (by simp)))
  · have hn : gl.length ≠ 0 := by simpa using hgl
    have he : (if 1 < (gl.length : Int) then (gl.length : Int) else 1) = gl.length := by split <;> omega
    obtain ⟨v, ev, _⟩ := atI_lt (xs := gl) (i := (t + 1) % gl.length) (Int.emod_nonneg _ (by omega)) (Int.emod_lt_of_pos _ (by omega))
    have ev' := atI_map (f := W.int) ev
    obtain ⟨j, ej, ej2⟩ : ∃ j, ixN gl.length ((t + 1) % gl.length) = some j ∧ gl[j]? = some v := Option.bind_eq_some_iff.mp ev
    by_cases hv : 0 < v
    · simp [ed, eg, dGet_cons, dPut, hk, hk2, hkk, hkk2, Heap.new_get, Heap.put_get, ne, ne2, hd, hg, s_gt, s_tg, e0, z2, z3, k1, k2, k3, k4a, k4b, hb, hb2, he, ev', hgl, hv, ej, pos]
      refine ⟨by omega, q _ _ (Int.emod_nonneg _ (by omega)) (Int.emod_lt_of_pos _ hb) ⟨⟨m, t + 1, by simp [Heap.put_get, Heap.new_get, ne, hd]⟩, ⟨gl.set j (v / b), by simp [Heap.put_get], by simpa using hl⟩, by simp; omega, by simp; omega, ne⟩ ?_⟩
      exact (((Kp.put h _ (by simp)).trans (Kp.new _ _ _)).trans (Kp.put _ _ (by simp)))
    · simp [ed, eg, dGet_cons, dPut, hk, hk2, hkk, hkk2, Heap.new_get, Heap.put_get, ne, ne2, hd, hg, s_gt, s_tg, e0, z2, z3, k1, k2, k3, k4a, k4b, hb, hb2, he, ev', hgl, hv, ej, pos]
      refine ⟨by omega, q _ _ (low _ _).1 (low _ _).2 ⟨⟨_, t + 1, by simp [Heap.put_get]; rfl⟩, ⟨gl, by simp [Heap.put_get, Heap.new_get, ne2, hg, eg], hl⟩, by simp; omega, by simp; omega, ne⟩ ?_⟩
      exact (((Kp.put h _ (by simp)).trans (Kp.new _ _ _)).trans (Kp.put _ _ (by simp)))
/-- the start of a draw -/
def s_begun (key : Str) (c1 c2 c3 c4 c5 : Int) : SS := sSeq (sAsg (eBin wAdd (eW (.int c1)) (eBin wMul (eW (.int c2)) (eB bLen (aCons (eVar 0) (aNil))))) (gNm 1)) (sSeq (sFor (.two 2 3) (iEnumW (aCons (eVar 0) (aNil))) (sAsg (eBin wMod (eBin wAdd (eBin wAdd (eBin wMul (eVar 1) (eW (.int c3))) (eVar 3)) (eBin wMul (eW (.int c4)) (eVar 2))) (eW (.int c5))) (gNm 1))) (sRet (eDct ((eW (.str key), eVar 1) :: (eW (.str "great"), eComp [3] (.one 3) (iSeq (eVar 0)) (bVal (eBin wGe2 (eVar 3) (eBin wPow (eW (.int 10)) (eW (.int 18))))) (eVar 3)) :: (eW (.str "turn"), eW (.int 0)) :: []))))
@[irreducible] def F_begun (key : Str) (c1 c2 c3 c4 c5 : Int) : List W → Heap → R := fnOf 1 4 (s_begun key c1 c2 c3 c4 c5)
theorem begun_to {key : Str} {c1 c2 c3 c4 c5 : Int} {h : Heap} {ns : List Int} {Q : W → Heap → Prop} {E : Nat → List (Nat × W) → Heap → Prop} (hl : ns.length ≤ 63)
    (hk : key ≠ "great" := by decide) (hk2 : key ≠ "turn" := by decide) (k1 : smallI c2 = true := by decide) (k2 : smallI c3 = true := by decide) (k3 : smallI c4 = true := by decide) (k4 : 0 < c5 := by decide)
    (q : ∀ d g h', Drw key h' d g → Kp [] h h' → h.nx ≤ d → h.nx ≤ g → Q (.ref d) h') : (F_begun key c1 c2 c3 c4 c5 [scriptW ns] h).to Q E := by
  unfold F_begun s_begun scriptW
  have hz : ns.length ≤ sizeLine := by rw [sizeLine_eq]; omega
  simp [k1, hz]
  refine for_inv (fun xs ls h' => h' = h ∧ (∀ x ∈ xs, ∃ i j, x = W.tup [.int i, .int j]) ∧ ∃ m a b, ls = [some (.fl (ns.map W.int)), some (.int m), a, b]) _ _ _ ⟨rfl, ?_, _, _, _, rfl⟩ ?_ ?_
  · have : ∀ (l : List Int) (k : Nat), ∀ x ∈ enumFrom k (l.map W.int), ∃ i j, x = W.tup [.int i, .int j] := by
      intro l
      induction l with
      | nil => intro k x m; simp [enumFrom] at m
      | cons a l ih =>
        intro k x m
        simp only [List.map_cons, enumFrom, List.mem_cons] at m
        rcases m with rfl | m
        · exact ⟨_, _, rfl⟩
        · exact ih _ x m
    exact this ns 0
  · rintro x xs ls _ ⟨rfl, hx, m, a, b, rfl⟩
    obtain ⟨i, j, rfl⟩ := hx x (by simp)
    refine ⟨rfl, _, rfl, ?_⟩
    simp [k1, k2, k3, k4]
    exact fun x m => hx x (by simp [m])
  · rintro ls h ⟨rfl, _, m, a, b, rfl⟩
    refine ⟨rfl, ?_⟩
    simp [hz]
    have sp : smallI 10 = true := by decide
    have key_comp := comp_inv (t := .one 3) (g := []) (ls := wipeL [some (.fl (ns.map W.int)), some (.int m), a, b] [3]) (cond := bVal (eBin wGe2 (eVar 3) (eBin wPow (eW (W.int 10)) (eW (W.int 18))))) (elt := eVar 3)
      (Q := fun acc h' => h' = h ∧ ∃ gl : List Int, acc = gl.map W.int ∧ gl.length ≤ 63)
      (fun xs acc h' => h' = h ∧ (∀ x ∈ xs, ∃ i, x = W.int i) ∧ ∃ gl : List Int, acc = gl.map W.int ∧ gl.length + xs.length ≤ 63) (ns.map W.int) [] h ⟨rfl, by simp, [], rfl, by simpa using hl⟩ ?_ ?_
    · refine Rs.to_mono key_comp ?_ fun _ _ _ z => z
      rintro w h' ⟨rfl, gl, e, hgl⟩
      simp only [List.nil_append] at e
      subst e
      simp [keysOf, keyOf, dMerge, dPut, hk, hk2, hk.symm, hk2.symm, s_gt, s_tg]
      refine q _ h'.nx _ ⟨⟨m, 0, by simp [Heap.new_get]⟩, ⟨gl, by simp [Heap.new_get], hgl⟩, by simp, by simp; omega, by simp⟩ ((Kp.new _ _ _).trans (Kp.new _ _ _)) (by simp) (Nat.le_refl _)
    · rintro x xs acc _ ⟨rfl, hx, gl, rfl, hgl⟩
      obtain ⟨i, rfl⟩ := hx x (by simp)
      refine ⟨rfl, _, rfl, ?_⟩
      simp [wipeL]
      simp only [List.length_cons] at hgl
      by_cases c : 1000000000000000000 ≤ i
      · exact .inr ⟨c, fun x m => hx x (List.mem_cons_of_mem _ m), gl ++ [i], by simp, by simp; omega⟩
      · exact .inl ⟨by omega, fun x m => hx x (List.mem_cons_of_mem _ m), gl, rfl, by omega⟩
    · rintro acc _ ⟨rfl, _, gl, rfl, hgl⟩
      exact ⟨rfl, rfl, gl, rfl, by simpa using hgl⟩
/-- a comprehension that leaves the heap as it is -/
theorem comp_pure {t : Tg} {g : List (Nat × List W)} {cond : SB} {elt : SE} {ls : Ls} {h : Heap} {Q : List W → Heap → Prop} (b : W → Bool) (e : W → W) (hg : gOk g h = true) : ∀ xs : List W, (∀ x ∈ xs, ∃ ls1, bindTg t x ls = some ls1 ∧ (cond ls1 h).to (fun c h1 => (c = b x ∧ h1 = h) ∧ (b x = true → (elt ls1 h).to (fun y h2 => y = e x ∧ h2 = h) fun _ _ _ => False)) fun _ _ _ => False) →
    Q ((xs.filter b).map e) h → (compL t g cond elt ls xs h).to Q fun _ _ _ => False := by
  intro xs hx q
  have := comp_inv (Q := fun ys h' => ys = (xs.filter b).map e ∧ h' = h) (t := t) (g := g) (cond := cond) (elt := elt) (ls := ls) (fun r acc h' => h' = h ∧ (∀ x ∈ r, x ∈ xs) ∧ acc ++ (r.filter b).map e = (xs.filter b).map e) xs [] h ⟨rfl, fun _ m => m, rfl⟩ ?_ ?_
  · refine Rs.to_mono this ?_ fun _ _ _ z => z
    rintro ys h' ⟨e1, rfl⟩
    simp only [List.nil_append] at e1
    rw [e1]; exact q
  · rintro x r acc h1 ⟨rfl, m, ea⟩
    obtain ⟨ls1, e1, e2⟩ := hx x (m x (by simp))
    refine ⟨hg, ls1, e1, ?_⟩
    cases ec : cond ls1 h1 with
    | ok c h2 =>
      rw [ec] at e2
      obtain ⟨⟨rfl, rfl⟩, e3⟩ := e2
      refine ⟨fun hb => R.to_mono (e3 hb) ?_ fun _ _ _ z => z, fun hb => ⟨rfl, fun x k => m x (List.mem_cons_of_mem _ k), ?_⟩⟩
      · rintro y h3 ⟨rfl, rfl⟩
        refine ⟨rfl, fun x k => m x (List.mem_cons_of_mem _ k), ?_⟩
        rw [← ea, List.filter_cons_of_pos hb]; simp
      · rw [← ea, List.filter_cons_of_neg (by simp [hb])]
    | exc => rw [ec] at e2; exact e2
    | bad => rw [ec] at e2; exact e2
  · rintro acc h1 ⟨rfl, _, ea⟩
    exact ⟨hg, by simpa using ea, rfl⟩
end Ev
set_option maxRecDepth 100000
/-! EvInst: instances of classes without an __eq__ of their own: == , in. -/
namespace Ev
open PySem L2
/-- no __eq__ of its own -/
structure IdC (K : PySem.W.Frag) (C : Addr) : Prop where
  mro : PySem.W.mroIn K C (.type "object") = some true
  eq : PySem.W.findIn K (.ref C) "__eq__" = some (some (.builtin "object.__eq__"))
  ne : PySem.W.findIn K (.ref C) "__ne__" = some (some (.builtin "object.__ne__"))
section
open PySem.Spec PyProof.Rows PySem.SeqAt
variable {M : Model} {prog : Program} {w : World} {A : Around} {E : Value → Shared → Prop} {s : Shared} {K : PySem.W.Frag} {x y C : Addr} {ox oy : Obj} {od od' : Option Obj}
theorem inst_notT (I : PySem.W.InstAt s.heap x ox C od) : ox.cls ≠ .type "tuple" := by rw [I.cls]; intro z; cases z
theorem call_eqS (X : K.In s.heap) (I : PySem.W.InstAt s.heap x ox C od) (k : IdC K C) {Q : Value → Shared → Prop} (hq : Q (.bool true) s) : wpAny (model prog w) A (call (.builtin "object.__eq__") [.ref x, .ref x]) Q E s :=
  wpAny_call (codeAny_call_builtin F.cmp_object.eq.plain F.cmpEntry_eq (PySem.W.check_slot F.cmpKind_eq F.cmpSplit_eq (I.type.andThen (PySem.W.looks_mroIn X k.mro)) (F.cmpArgs_eq _ _) (objEq_entry_same hq)))
theorem call_eqO (X : K.In s.heap) (I : PySem.W.InstAt s.heap x ox C od) (J : PySem.W.InstAt s.heap y oy C od') (ne : x ≠ y) (k : IdC K C) {Q : Value → Shared → Prop} (hq : Q .notImplemented s) : wpAny (model prog w) A (call (.builtin "object.__eq__") [.ref x, .ref y]) Q E s :=
  wpAny_call (codeAny_call_builtin F.cmp_object.eq.plain F.cmpEntry_eq (PySem.W.check_slot F.cmpKind_eq F.cmpSplit_eq (I.type.andThen (PySem.W.looks_mroIn X k.mro)) (F.cmpArgs_eq _ _) (objEq_entry_other ne I.at_ J.at_ (inst_notT I) hq)))
theorem tryS (X : K.In s.heap) (I : PySem.W.InstAt s.heap x ox C od) (k : IdC K C) {Q : Option Value → Shared → Prop} (hq : Q (some (.bool true)) s) : wpAny (model prog w) A (tryCompare (.ref x) "__eq__" (.ref x)) Q E s := by
  unfold tryCompare
  exact wpAny_bind (HN.ifBound_objEq X I k.eq (call_eqS X I k (wpAny_pure hq)))
theorem tryO (X : K.In s.heap) (I : PySem.W.InstAt s.heap x ox C od) (J : PySem.W.InstAt s.heap y oy C od') (ne : x ≠ y) (k : IdC K C) {Q : Option Value → Shared → Prop} (hq : Q none s) : wpAny (model prog w) A (tryCompare (.ref x) "__eq__" (.ref y)) Q E s := by
  unfold tryCompare
  exact wpAny_bind (HN.ifBound_objEq X I k.eq (call_eqO X I J ne k (wpAny_pure hq)))
theorem rc_ins (hu : A.units < cLine) (X : K.In s.heap) (I : PySem.W.InstAt s.heap x ox C od) (J : PySem.W.InstAt s.heap y oy C od') (k : IdC K C) : RcAt A s (.ref x) (.ref y) (decide (x = y)) := fun prog w E Q h => by
  simp only [richCompare, cmpInfo_Eq, oneThing_ref]
  refine wpAny_holding (wpAny_bind (wpAny_cRoomFor hu ?_))
  refine wpAny_bind (I.type.here (wpAny_bind (J.type.here ?_)))
  simp only [bne_self_eq_false, Bool.false_eq_true, if_false, Bool.not_false, if_true]
  refine wpAny_bind (wpAny_pure ?_)
  by_cases e : x = y
  · subst e
    refine wpAny_bind (m := tryCompare (.ref x) _ (.ref x)) (tryS X I k ?_)
    simp at h
    exact wpAny_pure h
  · refine wpAny_bind (m := tryCompare (.ref x) _ (.ref y)) (tryO X I J e k ?_)
    refine wpAny_bind (m := tryCompare (.ref y) _ (.ref x)) (tryO X J I (fun z => e z.symm) k ?_)
    simp [e] at h
    exact wpAny_bind (wpAny_rule (wpAny_bind (SeqAt.wpAny_isSame_ref_other' e I.at_ J.at_ (inst_notT J) (wpAny_pure h))))
theorem eq_ins (hu : A.units < cLine) (X : K.In s.heap) (I : PySem.W.InstAt s.heap x ox C od) (J : PySem.W.InstAt s.heap y oy C od') (k : IdC K C) : EqAt A s (.ref x) (.ref y) (decide (x = y)) := by
  by_cases e : x = y
  · subst e
    simpa using EqAt.same (A := A) (s := s) (.ref x)
  · exact EqAt.of_refs e (rc_ins hu X I J k)
theorem spS (X : K.In s.heap) (I : PySem.W.InstAt s.heap x ox C od) (k : IdC K C) {Q : Option Value → Shared → Prop} (hq : Q (some (.bool true)) s) : wpAny (model prog w) A (callSpecialIfBound? (.ref x) "__eq__" [.ref x]) Q E s := HN.ifBound_objEq X I k.eq (call_eqS X I k hq)
theorem spO (X : K.In s.heap) (I : PySem.W.InstAt s.heap x ox C od) (J : PySem.W.InstAt s.heap y oy C od') (ne : x ≠ y) (k : IdC K C) {Q : Option Value → Shared → Prop} (hq : Q (some .notImplemented) s) : wpAny (model prog w) A (callSpecialIfBound? (.ref x) "__eq__" [.ref y]) Q E s := HN.ifBound_objEq X I k.eq (call_eqO X I J ne k hq)
theorem entry_neS (hu : A.units < cLine) (X : K.In s.heap) (I : PySem.W.InstAt s.heap x ox C od) (k : IdC K C) {Q : Fin → Shared → Prop} (hq : Q (.done (.ret (.bool false))) s) : wpAny (model prog w) A (Builtin.«object.__ne__» ⟨[.ref x, .ref x], []⟩) Q E s := by
  unfold Builtin.«object.__ne__»
  repeat (first | with_reducible refine wpAny_cRoomFor hu ?_ | with_reducible refine spS X I k ?_ | wp_step)
  exact hq
theorem entry_neO (hu : A.units < cLine) (X : K.In s.heap) (I : PySem.W.InstAt s.heap x ox C od) (J : PySem.W.InstAt s.heap y oy C od') (ne : x ≠ y) (k : IdC K C) {Q : Fin → Shared → Prop} (hq : Q (.done (.ret .notImplemented)) s) : wpAny (model prog w) A (Builtin.«object.__ne__» ⟨[.ref x, .ref y], []⟩) Q E s := by
  unfold Builtin.«object.__ne__»
  repeat (first | with_reducible refine wpAny_cRoomFor hu ?_ | with_reducible refine spO X I J ne k ?_ | wp_step)
  exact hq
theorem ifBound_objNe {args : List Value} {Q : Option Value → Shared → Prop} (X : K.In s.heap) (I : PySem.W.InstAt s.heap x ox C od) (hs : PySem.W.findIn K (.ref C) "__ne__" = some (some (.builtin "object.__ne__")))
    (h : wpAny M A (call (.builtin "object.__ne__") (.ref x :: args)) (fun v => Q (some v)) E s) : wpAny M A (callSpecialIfBound? (.ref x) "__ne__" args) Q E s := by
  simp only [callSpecialIfBound?, bindSpecialIfBound?]
  refine wpAny_holding (wpAny_bind (wpAny_bind (wpAny_bind (I.type.here ((PySem.W.looks_findIn X hs).here (wpAny_bind (wpAny_askSetting (wpAny_ite ?_))))))))
  have fin : wpAny M A (call (.builtin "object.__ne__") ([.ref x] ++ args) >>= fun v => pure (some v)) Q E s := wpAny_bind (wpAny_mono h (fun v s' z => wpAny_pure z) fun _ _ z => z)
  split
  · exact wpAny_bind (wpAny_of_eq (F.cmp_object.ne.bind _) (wpAny_pure (by exact fin)))
  · exact wpAny_tryCatch (wpAny_bind (wpAny_of_eq (F.cmp_object.ne.bind _) (wpAny_pure (by exact fin))))
theorem tryNS (hu : A.units + 1 < cLine) (X : K.In s.heap) (I : PySem.W.InstAt s.heap x ox C od) (k : IdC K C) {Q : Option Value → Shared → Prop} (hq : Q (some (.bool false)) s) : wpAny (model prog w) A (tryCompare (.ref x) "__ne__" (.ref x)) Q E s := by
  unfold tryCompare
  refine wpAny_bind (ifBound_objNe X I k.ne (wpAny_call (codeAny_call_builtin F.cmp_object.ne.plain F.cmpEntry_ne (PySem.W.check_slot F.cmpKind_ne F.cmpSplit_ne (I.type.andThen (PySem.W.looks_mroIn X k.mro)) (F.cmpArgs_ne _ _) (entry_neS (by exact hu) X I k (wpAny_pure hq))))))
theorem tryNO (hu : A.units + 1 < cLine) (X : K.In s.heap) (I : PySem.W.InstAt s.heap x ox C od) (J : PySem.W.InstAt s.heap y oy C od') (ne : x ≠ y) (k : IdC K C) {Q : Option Value → Shared → Prop} (hq : Q none s) : wpAny (model prog w) A (tryCompare (.ref x) "__ne__" (.ref y)) Q E s := by
  unfold tryCompare
  refine wpAny_bind (ifBound_objNe X I k.ne (wpAny_call (codeAny_call_builtin F.cmp_object.ne.plain F.cmpEntry_ne (PySem.W.check_slot F.cmpKind_ne F.cmpSplit_ne (I.type.andThen (PySem.W.looks_mroIn X k.mro)) (F.cmpArgs_ne _ _) (entry_neO (by exact hu) X I J ne k (wpAny_pure hq))))))
theorem rcn_ins (hu : A.units + 1 < cLine) (X : K.In s.heap) (I : PySem.W.InstAt s.heap x ox C od) (J : PySem.W.InstAt s.heap y oy C od') (k : IdC K C) : RcNeAt A s (.ref x) (.ref y) (!decide (x = y)) := fun prog w E Q h => by
  simp only [richCompare, cmpInfo_NotEq, oneThing_ref]
  refine wpAny_holding (wpAny_bind (wpAny_cRoomFor (by omega) ?_))
  refine wpAny_bind (I.type.here (wpAny_bind (J.type.here ?_)))
  simp only [bne_self_eq_false, Bool.false_eq_true, if_false, Bool.not_false, if_true]
  refine wpAny_bind (wpAny_pure ?_)
  by_cases e : x = y
  · subst e
    refine wpAny_bind (m := tryCompare (.ref x) _ (.ref x)) (tryNS hu X I k ?_)
    simp at h
    exact wpAny_pure h
  · refine wpAny_bind (m := tryCompare (.ref x) _ (.ref y)) (tryNO hu X I J e k ?_)
    refine wpAny_bind (m := tryCompare (.ref y) _ (.ref x)) (tryNO hu X J I (fun z => e z.symm) k ?_)
    simp [e] at h
    exact wpAny_bind (wpAny_rule (wpAny_bind (SeqAt.wpAny_isSame_ref_other' e I.at_ J.at_ (inst_notT J) (wpAny_pure h))))
end

/-- the instances x, y are one -/
def rIdc (K : PySem.W.Frag) (neg : Bool) : R2 := fun x y H Q => ∃ a b C dx dy fs gs, x = V.ref a ∧ y = V.ref b ∧ H a = some (.ins C dx fs) ∧ H b = some (.ins C dy gs) ∧ IdC K C ∧ Q (.bl (if neg then !decide (a = b) else decide (a = b))) H
def rInIdc (K : PySem.W.Frag) (neg : Bool) : R2 := fun x y H Q => ∃ a p C dx fs, ∃ bs : List Addr, x = V.ref a ∧ y = V.ref p ∧ H a = some (.ins C dx fs) ∧ IdC K C ∧ SqL K H p (bs.map V.ref) ∧ (∀ b ∈ bs, ∃ dy gs, H b = some (.ins C dy gs)) ∧ Q (.bl (if neg then !decide (a ∈ bs) else decide (a ∈ bs))) H
section
variable {X : Cx} {N : Nm}
theorem op_eqIdc (hu : X.A.units + 64 < cLine) : OpR X (compareOp .Eq) (rIdc X.K false) := by
  intro pins s σ H x y v u Q I rx ry h
  obtain ⟨a, b, C, dx, dy, fs, gs, rfl, rfl, h1, h2, k, q⟩ := h
  cases (show v = Value.ref a from rx)
  cases (show u = Value.ref b from ry)
  obtain ⟨_, O1, _⟩ := ins_get I.hok h1
  obtain ⟨_, J1, _⟩ := O1.look
  obtain ⟨_, O2, _⟩ := ins_get I.hok h2
  obtain ⟨_, J2, _⟩ := O2.look
  exact rc_ins (by omega) I.kIn J1 J2 k X.prog X.w _ _ ⟨.bl _, H, I, rfl, q⟩
theorem op_neIdc (hu : X.A.units + 64 < cLine) : OpR X (compareOp .NotEq) (rIdc X.K true) := by
  intro pins s σ H x y v u Q I rx ry h
  obtain ⟨a, b, C, dx, dy, fs, gs, rfl, rfl, h1, h2, k, q⟩ := h
  cases (show v = Value.ref a from rx)
  cases (show u = Value.ref b from ry)
  obtain ⟨_, O1, _⟩ := ins_get I.hok h1
  obtain ⟨_, J1, _⟩ := O1.look
  obtain ⟨_, O2, _⟩ := ins_get I.hok h2
  obtain ⟨_, J2, _⟩ := O2.look
  exact rcn_ins (by omega) I.kIn J1 J2 k X.prog X.w _ _ ⟨.bl _, H, I, rfl, q⟩
theorem vals_refs : ∀ {bs : List Addr} {us : List Value}, Vals (bs.map V.ref) us → us = bs.map Value.ref
  | [], us, h => by cases h; rfl
  | b :: bs, us, h => by
    cases h with
    | cons r t => cases (show _ = Value.ref b from r); rw [vals_refs t]; rfl
def isRef (a : Addr) : Value → Bool
  | .ref b => decide (b = a)
  | _ => false
theorem any_ref (a : Addr) : ∀ bs : List Addr, (bs.map Value.ref).any (isRef a) = decide (a ∈ bs)
  | [] => by simp
  | b :: bs => by
    simp only [List.map_cons, List.any_cons, any_ref a bs, isRef, List.mem_cons]
    by_cases e : b = a
    · simp [e]
    · have e' : ¬ a = b := fun z => e z.symm
      simp [e, e']
theorem mem_idc {pins : List (Addr × Obj)} {σ : St} {H : Hp} {s : Shared} {A : Around} {a C dx : Addr} {fs : List (Str × V)} {bs : List Addr} (I : Inv X pins σ H s) (hu : A.units < cLine) (k : IdC X.K C) (h1 : H a = some (.ins C dx fs)) (h2 : ∀ b ∈ bs, ∃ dy gs, H b = some (.ins C dy gs)) : ∀ u ∈ bs.map Value.ref, SeqAt.EqAt A s u (.ref a) (isRef a u) := fun u m => by
  obtain ⟨b, mb, rfl⟩ := List.mem_map.mp m
  obtain ⟨dy, gs, h2⟩ := h2 b mb
  obtain ⟨_, O1, _⟩ := ins_get I.hok h1
  obtain ⟨_, J1, _⟩ := O1.look
  obtain ⟨_, O2, _⟩ := ins_get I.hok h2
  obtain ⟨_, J2, _⟩ := O2.look
  exact eq_ins hu I.kIn J2 J1 k
theorem op_inIdc (hu : X.A.units + 64 < cLine) : OpR X (compareOp .In) (rInIdc X.K false) := by
  intro pins s σ H x y v u Q I rx ry h
  obtain ⟨a, p, C, dx, fs, bs, rfl, rfl, h1, k, hq, h2, q⟩ := h
  cases (show v = Value.ref a from rx)
  cases (show u = Value.ref p from ry)
  obtain ⟨its, r, pl, hz⟩ := I.list hq
  rw [vals_refs r] at pl
  refine SeqAt.in_listAt (isRef a) pl.isList (fun u m => mem_idc I (by show X.A.units + 1 < cLine; omega) k h1 h2 u (by simpa using m)) ⟨.bl _, H, I, rfl, ?_⟩
  rw [show (bs.map Value.ref).toArray.any (isRef a) = (bs.map Value.ref).any (isRef a) by simp, any_ref]
  exact q
theorem op_ninIdc (hu : X.A.units + 64 < cLine) : OpR X (compareOp .NotIn) (rInIdc X.K true) := by
  intro pins s σ H x y v u Q I rx ry h
  obtain ⟨a, p, C, dx, fs, bs, rfl, rfl, h1, k, hq, h2, q⟩ := h
  cases (show v = Value.ref a from rx)
  cases (show u = Value.ref p from ry)
  obtain ⟨its, r, pl, hz⟩ := I.list hq
  rw [vals_refs r] at pl
  refine SeqAt.notIn_listAt (isRef a) pl.isList (fun u m => mem_idc I (by show X.A.units + 1 < cLine; omega) k h1 h2 u (by simpa using m)) ⟨.bl _, H, I, rfl, ?_⟩
  rw [show (bs.map Value.ref).toArray.any (isRef a) = (bs.map Value.ref).any (isRef a) by simp, any_ref]
  exact q
end
/-! ### lifted -/
def idEq (idc : Nat → Bool) (h : Heap) : W → W → Option Bool
  | .ref n, .ref m => match h.get n, h.get m with
    | some (.ins c _), some (.ins d _) => if c = d ∧ idc c = true then some (decide (n = m)) else none
    | _, _ => none
  | _, _ => none
def refsOf (h : Heap) (c : Nat) : List W → Option (List Nat)
  | [] => some []
  | .ref n :: r => match h.get n with
    | some (.ins d _) => if c = d then (refsOf h c r).map (n :: ·) else none
    | _ => none
  | _ => none
def idIn (idc : Nat → Bool) (h : Heap) : W → W → Option Bool
  | .ref n, y => match h.get n, seqW h y with
    | some (.ins c _), some xs => if idc c = true then (refsOf h c xs).map fun ns => decide (n ∈ ns) else none
    | _, _ => none
  | _, _ => none
def orO (a b : Option Bool) : Option Bool := match a with
  | some x => some x
  | none => b
def ofO (neg : Bool) (o : Option Bool) (h : Heap) : R := match o with
  | some b => .ok (.bl (if neg then !b else b)) h
  | none => .bad
def wEqI (idc : Nat → Bool) (x y : W) (h : Heap) : R := ofO false (orO (idEq idc h x y) (eqO h x y)) h
def wNeI (idc : Nat → Bool) (x y : W) (h : Heap) : R := ofO true (orO (idEq idc h x y) (eqO h x y)) h
def wInI (idc : Nat → Bool) (x y : W) (h : Heap) : R := ofO false (orO (idIn idc h x y) (inO h x y)) h
def wNinI (idc : Nat → Bool) (x y : W) (h : Heap) : R := ofO true (orO (idIn idc h x y) (inO h x y)) h
section
variable {X : Cx} {N : Nm}
theorem ref_eq {K : PySem.W.Frag} {ρ : List Addr} {h : Heap} {H : Hp} (hr : HR K N ρ h H) {n m : Nat} {a b : Addr} (p : ρ[n]? = some a) (q : ρ[m]? = some b) : (a = b ↔ n = m) := by
  constructor
  · rintro rfl
    obtain ⟨l1, e1⟩ := List.getElem?_eq_some_iff.mp p
    obtain ⟨l2, e2⟩ := List.getElem?_eq_some_iff.mp q
    exact (List.getElem_inj hr.nd).mp (e1.trans e2.symm)
  · rintro rfl
    rw [p] at q; cases q; rfl
theorem idEq_in {K : PySem.W.Frag} {ρ : List Addr} {h : Heap} {H : Hp} {x y : W} {v u : V} {b neg : Bool} {idc : Nat → Bool} {Q : VK} {E : XK} (hi : ∀ c, idc c = true → IdC K (N.ca c)) (hr : HR K N ρ h H) (rx : VR K ρ H x v) (ry : VR K ρ H y u) (e : idEq idc h x y = some b) (o : Out K N ρ H (.ok (.bl (if neg then !b else b)) h) Q E) : rIdc K neg v u H Q := by
  unfold idEq at e
  split at e
  · cases rx with
    | ref p => cases ry with
      | ref q =>
        split at e
        · rename_i c fs d gs e1 e2
          split at e
          · rename_i z
            cases e
            obtain ⟨rfl, z⟩ := z
            obtain ⟨dx, fs', g1, _⟩ := ins_of hr e1 p
            obtain ⟨dy, gs', g2, _⟩ := ins_of hr e2 q
            refine ⟨_, _, _, dx, dy, fs', gs', rfl, rfl, g1, g2, hi _ z, ?_⟩
            have := o.val hr (.bl _)
            rw [show decide (_ = _) = decide (_ = _) from decide_eq_decide.mpr (ref_eq hr p q)]
            exact this
          · cases e
        · cases e
  · cases e
theorem refs_in {K : PySem.W.Frag} {ρ : List Addr} {h : Heap} {H : Hp} (hr : HR K N ρ h H) {c : Nat} : ∀ {xs : List W} {ys : List V} {ns : List Nat}, refsOf h c xs = some ns → VRs K ρ H xs ys → ∃ bs : List Addr, ys = bs.map V.ref ∧ (∀ b ∈ bs, ∃ dy gs, H b = some (.ins (N.ca c) dy gs)) ∧ ∀ n a, ρ[n]? = some a → (a ∈ bs ↔ n ∈ ns)
  | [], [], ns, e, .nil => by simp [refsOf] at e; subst e; exact ⟨[], rfl, by simp, by simp⟩
  | x :: xs, y :: ys, ns, e, .cons q r => by
    cases q with
    | @ref m b q =>
      simp only [refsOf] at e
      split at e
      · rename_i d fs e1
        split at e
        · rename_i z
          subst z
          obtain ⟨ns', e2, rfl⟩ := Option.map_eq_some_iff.mp e
          obtain ⟨bs, rfl, h1, h2⟩ := refs_in hr e2 r
          obtain ⟨dy, gs, g1, _⟩ := ins_of hr e1 q
          refine ⟨b :: bs, rfl, fun b' m' => ?_, fun n a p => ?_⟩
          · rcases List.mem_cons.mp m' with rfl | m'
            · exact ⟨dy, gs, g1⟩
            · exact h1 b' m'
          · rw [List.mem_cons, List.mem_cons, h2 n a p, ref_eq hr p q]
        · cases e
      · cases e
    | _ => simp [refsOf] at e
theorem idIn_in {K : PySem.W.Frag} {ρ : List Addr} {h : Heap} {H : Hp} {x y : W} {v u : V} {b neg : Bool} {idc : Nat → Bool} {Q : VK} {E : XK} (hi : ∀ c, idc c = true → IdC K (N.ca c)) (hr : HR K N ρ h H) (rx : VR K ρ H x v) (ry : VR K ρ H y u) (e : idIn idc h x y = some b) (o : Out K N ρ H (.ok (.bl (if neg then !b else b)) h) Q E) : rInIdc K neg v u H Q := by
  unfold idIn at e
  split at e
  · cases rx with
    | ref p =>
      split at e
      · rename_i c fs xs e1 e2
        split at e
        · rename_i z
          obtain ⟨ns, e3, rfl⟩ := Option.map_eq_some_iff.mp e
          obtain ⟨dx, fs', g1, _⟩ := ins_of hr e1 p
          obtain ⟨pa, ys, rfl, h1, h2⟩ := seqW_in hr e2 ry
          obtain ⟨bs, rfl, h3, h4⟩ := refs_in hr e3 h2
          refine ⟨_, pa, _, dx, fs', bs, rfl, rfl, g1, hi _ z, h1, h3, ?_⟩
          have := o.val hr (.bl _)
          rw [show decide (_ ∈ bs) = decide (_ ∈ ns) from decide_eq_decide.mpr (h4 _ _ p)]
          exact this
        · cases e
      · cases e
  · cases e
theorem ok_eqI {idc : Nat → Bool} (hi : ∀ c, idc c = true → IdC X.K (N.ca c)) (hu : X.A.units + 64 < cLine) : OpOk X N (compareOp .Eq) (wEqI idc) := by
  obtain ⟨r, h1, h2⟩ := ok_eq (X := X) (N := N) hu
  refine ⟨_, (op_eqIdc hu).or h1, fun ρ h H x y v u Q E hr rx ry o => ?_⟩
  unfold wEqI ofO orO at o
  cases e : idEq idc h x y with
  | some b => rw [e] at o; exact .inl (idEq_in hi hr rx ry e o)
  | none =>
    rw [e] at o
    refine .inr (h2 ρ h H x y v u Q E hr rx ry ?_)
    unfold wEq
    cases e2 : eqO h x y with
    | none => rw [e2] at o; exact o
    | some b => rw [e2] at o; exact o
theorem ok_neI {idc : Nat → Bool} (hi : ∀ c, idc c = true → IdC X.K (N.ca c)) (hu : X.A.units + 64 < cLine) : OpOk X N (compareOp .NotEq) (wNeI idc) := by
  obtain ⟨r, h1, h2⟩ := ok_ne (X := X) (N := N) hu
  refine ⟨_, (op_neIdc hu).or h1, fun ρ h H x y v u Q E hr rx ry o => ?_⟩
  unfold wNeI ofO orO at o
  cases e : idEq idc h x y with
  | some b => rw [e] at o; exact .inl (idEq_in hi hr rx ry e o)
  | none =>
    rw [e] at o
    refine .inr (h2 ρ h H x y v u Q E hr rx ry ?_)
    unfold wNe
    cases e2 : eqO h x y with
    | none => rw [e2] at o; exact o
    | some b => rw [e2] at o; exact o
theorem ok_inI {idc : Nat → Bool} (hi : ∀ c, idc c = true → IdC X.K (N.ca c)) (hu : X.A.units + 65 < cLine) : OpOk X N (compareOp .In) (wInI idc) := by
  obtain ⟨r, h1, h2⟩ := ok_in (X := X) (N := N) hu
  refine ⟨_, (op_inIdc (by omega)).or h1, fun ρ h H x y v u Q E hr rx ry o => ?_⟩
  unfold wInI ofO orO at o
  cases e : idIn idc h x y with
  | some b => rw [e] at o; exact .inl (idIn_in hi hr rx ry e o)
  | none =>
    rw [e] at o
    refine .inr (h2 ρ h H x y v u Q E hr rx ry ?_)
    unfold wIn
    cases e2 : inO h x y with
    | none => rw [e2] at o; exact o
    | some b => rw [e2] at o; exact o
theorem ok_ninI {idc : Nat → Bool} (hi : ∀ c, idc c = true → IdC X.K (N.ca c)) (hu : X.A.units + 65 < cLine) : OpOk X N (compareOp .NotIn) (wNinI idc) := by
  obtain ⟨r, h1, h2⟩ := ok_nin (X := X) (N := N) hu
  refine ⟨_, (op_ninIdc (by omega)).or h1, fun ρ h H x y v u Q E hr rx ry o => ?_⟩
  unfold wNinI ofO orO at o
  cases e : idIn idc h x y with
  | some b => rw [e] at o; exact .inl (idIn_in hi hr rx ry e o)
  | none =>
    rw [e] at o
    refine .inr (h2 ρ h H x y v u Q E hr rx ry ?_)
    unfold wNin
    cases e2 : inO h x y with
    | none => rw [e2] at o; exact o
    | some b => rw [e2] at o; exact o
end
end Ev
set_option maxRecDepth 100000
/-! EvCls: classes of the text: their methods, properties, fields; the facts that the head is asked. -/
namespace Ev
open PySem L2
/-- how a def's arguments bind -/
def BdQ (x q : Str) (st : Stmt) (ps : List Str) (n : Nat) (ks : List Str) (sel : List (Bool × Nat)) : Prop :=
  ∀ (kV doc pm : Value) (an : Option Addr) (cdv ct : Value) (us ws : List Value), us.length = n → ws.length = ks.length → bindArgs (PySem.W.fnOf x q (defArgs st) (defBody st) (defScope st) .none kV doc pm an cdv ct) ⟨us, ks.zip ws⟩ = pure (ps.zip (pick sel us ws))
theorem FunD.kbq {K : PySem.W.Frag} {x q : Str} {st : Stmt} {ps : List Str} {n : Nat} {ks : List Str} {sel : List (Bool × Nat)} {f : Addr} {fd : FuncData} (F : FunD K x q (defArgs st) (defBody st) (defScope st) [] [] f fd) (h : BdQ x q st ps n ks sel) : KB K fd ps n ks (pick sel) := by
  obtain ⟨oc, od, dV, kV, doc, pm, an, cdv, ct, osl, rfl, lk, hcd, hd, _⟩ := F.ex
  obtain rfl : dV = .none := by
    rcases hd with ⟨_, e⟩ | ⟨e, _⟩
    · exact e
    · exact (e rfl).elim
  exact ⟨pick sel, fun s us ws _ l1 l2 => .of_eq (h _ _ _ _ _ _ us ws l1 l2), fun r1 r2 q1 q2 l1 l2 => pick_vrs r1 r2 q1 q2 sel⟩
/-- a def of the text at f -/
def FnAt (K : PySem.W.Frag) (f : Addr) (x q : Str) (st : Stmt) : Prop := ∃ fd, FunD K x q (defArgs st) (defBody st) (defScope st) [] [] f fd
/-- .. and what it does -/
structure MdOk (P : Program) (w : World) (K : PySem.W.Frag) (mg : Str → Option Value) (base : PySem.Heap) (N : Nm) (k : Nat) (f : Addr) (x q : Str) (st : Stmt) (ps : List Str) (F : List W → Heap → R) : Prop where
  ex : ∃ fd, FunD K x q (defArgs st) (defBody st) (defScope st) [] [] f fd ∧ FG P w K mg base k f fd ps (LSp K N F)
theorem MdOk.mono {P : Program} {w : World} {K : PySem.W.Frag} {mg : Str → Option Value} {base : PySem.Heap} {N : Nm} {j k : Nat} {f : Addr} {x q : Str} {st : Stmt} {ps : List Str} {F : List W → Heap → R} (D : MdOk P w K mg base N j f x q st ps F) (h : j ≤ k) : MdOk P w K mg base N k f x q st ps F :=
  let ⟨fd, h1, h2⟩ := D.ex
  ⟨fd, h1, h2.mono h⟩
theorem MdOk.mk' {P : Program} {w : World} {K : PySem.W.Frag} {mg : Str → Option Value} {base : PySem.Heap} {N : Nm} {k : Nat} {f : Addr} {x q : Str} {st : Stmt} {ps Ns : List Str} {s : SS} (D : FnAt K f x q st) (S : FnScope Ns ps (defScope st)) (b : BodyOk P w K mg base N Ns q (defScope st) (defBody st) f k s) :
    MdOk P w K mg base N (k + 1) f x q st ps (fnOf ps.length Ns.length s) :=
  let ⟨fd, h⟩ := D
  ⟨fd, h, d_fn h S b⟩
/-- a getter: no matter what is being shown -/
structure GtOk (P : Program) (w : World) (K : PySem.W.Frag) (mg : Str → Option Value) (base : PySem.Heap) (N : Nm) (k : Nat) (f : Addr) (F : List W → Heap → R) : Prop where
  ex : ∃ fd, FnOk P w K mg base (L2.CX P w) k f fd ["self"] (LSp K N F) ∧ Binds K fd ["self"] []
def BodyOk0 (P : Program) (w : World) (K : PySem.W.Frag) (mg : Str → Option Value) (base : PySem.Heap) (Nn : Nm) (N : List Str) (qual : Str) (scope : Scope) (body : List Stmt) (f : Addr) (k : Nat) (s : SS) : Prop :=
  ∀ (cdv : Value) (A : Around) (outer : List Env) (st : Shared) (H : Hp) (E : XK), Room k (A.deeper (PyProof.Rows.envOfC qual scope st.heap.objs.size f cdv)) →
    PSs (cxOf (L2.CX P w) P w K mg base N qual scope f cdv A outer st H E) body (LS K Nn (fun c d _ H' => E c d H') s)
theorem GtOk.mk' {P : Program} {w : World} {K : PySem.W.Frag} {mg : Str → Option Value} {base : PySem.Heap} {N : Nm} {k : Nat} {f : Addr} {x q : Str} {st : Stmt} {Ns : List Str} {s : SS} (D : FnAt K f x q st) (S : FnScope Ns [("self" : Str)] (defScope st)) (b : BodyOk0 P w K mg base N Ns q (defScope st) (defBody st) f k s)
    (bd : BdQ x q st ["self"] 1 [] [(false, 0)]) : GtOk P w K mg base N (k + 1) f (fnOf 1 Ns.length s) := by
  obtain ⟨fd, h⟩ := D
  have hpl : [("self" : Str)].length ≤ Ns.length := by have := congrArg List.length S.pre; rw [List.length_take] at this; omega
  refine ⟨fd, FunD.ok h S (fun vs H Q E h => fn_len (ps := [("self" : Str)]) h) fun cdv A outer st' H vs Q E hr hsp => ⟨_, b cdv A outer st' H E hr, fn_in (ps := [("self" : Str)]) hpl hsp⟩, ?_⟩
  refine FunD.bindsN h fun kV doc pm an cdv ct us hl => ?_
  match us, hl with
  | [u], _ => exact bd kV doc pm an cdv ct [u] [] rfl rfl
section
variable {X : Cx} {N : Nm} {Wx : WX} {pos p apos : Pos} {e a b o : PySem.Expr} {es : List PySem.Expr} {kws : List Keyword} {gs hs : SEs} {k n : Nat} {x q m : Str} {st : Stmt} {ps ks : List Str} {F : List W → Heap → R} {sel : List (Bool × Nat)} {f g : SE} {fa : Addr}
/-- f(..), a def of the module -/
theorem r_callf (hm : X.mg x = some (.ref fa)) (D : MdOk X.prog X.w X.K X.mg X.base N k fa x x st ps F) (bd : BdQ x x st ps n ks sel) (hr : Room k X.A) (hgu : X.A.guards = some []) (tk : Takes X Wx) (ha : PA X (e :: es) (LA X.K N Wx gs)) (hkw : PK X kws (LA X.K N Wx hs)) (hg : Gl X x := by rfl)
    (hall : (backToKw pos (keywordEach kws X.env)).all (·.1.isSome) = true := by rfl) (hks : (backToKw pos (keywordEach kws X.env)).filterMap (·.1) = ks := by rfl)
    (hdb : (x == ("__debug__" : Str)) = false := by decide) (he : starEach (e :: es) X.env = (false, eval e X.env) :: starEach es X.env := by rfl)
    (hpl : ((backTo pos (starEach (e :: es) X.env)).any (·.1) || (backToKw pos (keywordEach kws X.env)).any (·.1.isNone)) = false := by rfl) : PE X (.Call (.Name x p) (e :: es) kws pos) (LE X.K N Wx (eCall (fun xs ys h => F (pick sel xs ys) h) n ks.length gs hs)) := by
  obtain ⟨fd, h2, h3⟩ := D.ex
  exact r_call (cal_fn h3 hr hgu (FunD.kbq h2 bd) tk) hg hm h2.kp ha hkw hall hks hdb he hpl
theorem r_callf0 (hm : X.mg x = some (.ref fa)) (D : MdOk X.prog X.w X.K X.mg X.base N k fa x x st ps F) (bd : BdQ x x st ps 0 ks sel) (hr : Room k X.A) (hgu : X.A.guards = some []) (tk : Takes X Wx) (hkw : PK X kws (LA X.K N Wx hs)) (hg : Gl X x := by rfl)
    (hall : (backToKw pos (keywordEach kws X.env)).all (·.1.isSome) = true := by rfl) (hks : (backToKw pos (keywordEach kws X.env)).filterMap (·.1) = ks := by rfl)
    (hdb : (x == ("__debug__" : Str)) = false := by decide)
    (hpl : ((backTo pos (starEach [] X.env)).any (·.1) || (backToKw pos (keywordEach kws X.env)).any (·.1.isNone)) = false := by rfl) : PE X (.Call (.Name x p) [] kws pos) (LE X.K N Wx (eCall (fun xs ys h => F (pick sel xs ys) h) 0 ks.length aNil hs)) := by
  obtain ⟨fd, h2, h3⟩ := D.ex
  exact r_call0 (cal_fn h3 hr hgu (FunD.kbq h2 bd) tk) hg hm h2.kp hkw hall hks hdb hpl
/-- C(..) -/
theorem r_make {c : Nat} (M : Mk X.K (N.ca c) fa) (D : MdOk X.prog X.w X.K X.mg X.base N k fa "__init__" q st ps F) (bd : BdQ "__init__" q st ps (n + 1) ks sel) (gC : X.mg x = some (.ref (N.ca c))) (hr : Room (k + 1) X.A) (hgu : X.A.guards = some []) (tk : Takes X Wx)
    (ha : PA X (e :: es) (LA X.K N Wx gs)) (hkw : PK X kws (LA X.K N Wx hs)) (hg : Gl X x := by rfl)
    (hall : (backToKw pos (keywordEach kws X.env)).all (·.1.isSome) = true := by rfl) (hks : (backToKw pos (keywordEach kws X.env)).filterMap (·.1) = ks := by rfl)
    (hdb : (x == ("__debug__" : Str)) = false := by decide) (he : starEach (e :: es) X.env = (false, eval e X.env) :: starEach es X.env := by rfl)
    (hpl : ((backTo pos (starEach (e :: es) X.env)).any (·.1) || (backToKw pos (keywordEach kws X.env)).any (·.1.isNone)) = false := by rfl) : PE X (.Call (.Name x p) (e :: es) kws pos) (LE X.K N Wx (eCall (mkObj c F (pick sel)) n ks.length gs hs)) := by
  obtain ⟨fd, h2, h3⟩ := D.ex
  exact r_call (cal_make M h3 hr hgu (FunD.kbq h2 bd) tk) hg gC M.kp ha hkw hall hks hdb he hpl
theorem r_make0 {c : Nat} (M : Mk X.K (N.ca c) fa) (D : MdOk X.prog X.w X.K X.mg X.base N k fa "__init__" q st ps F) (bd : BdQ "__init__" q st ps 1 ks sel) (gC : X.mg x = some (.ref (N.ca c))) (hr : Room (k + 1) X.A) (hgu : X.A.guards = some []) (tk : Takes X Wx) (hkw : PK X kws (LA X.K N Wx hs)) (hg : Gl X x := by rfl)
    (hall : (backToKw pos (keywordEach kws X.env)).all (·.1.isSome) = true := by rfl) (hks : (backToKw pos (keywordEach kws X.env)).filterMap (·.1) = ks := by rfl)
    (hdb : (x == ("__debug__" : Str)) = false := by decide)
    (hpl : ((backTo pos (starEach [] X.env)).any (·.1) || (backToKw pos (keywordEach kws X.env)).any (·.1.isNone)) = false := by rfl) : PE X (.Call (.Name x p) [] kws pos) (LE X.K N Wx (eCall (mkObj c F (pick sel)) 0 ks.length aNil hs)) := by
  obtain ⟨fd, h2, h3⟩ := D.ex
  exact r_call0 (cal_make M h3 hr hgu (FunD.kbq h2 bd) tk) hg gC M.kp hkw hall hks hdb hpl
/-- one class alone has it -/
def onlyC {α : Type} (c : Nat) (a : α) (d : Nat) : Option α := if d = c then some a else none
def atF (cs : List Nat) (d : Nat) : At := if d ∈ cs then .fld else .none
def atP (c : Nat) (G : List W → Heap → R) (d : Nat) : At := if d = c then .prop G else .none
theorem mt_ok {c mi : Nat} (cl : Cls X.K (N.ca c)) (hm : Meth X.K (N.ca c) (N.an mi) fa) (D : MdOk X.prog X.w X.K X.mg X.base N k fa x q st ps F) (bd : BdQ x q st ps (n + 1) ks sel) (hr : Room k X.A) (hgu : X.A.guards = some []) (tk : Takes X Wx) :
    ∀ d G, onlyC c (fun xs ys h => F (pick sel xs ys) h) d = some G → MtOk X N Wx mi n ks d G := fun d G e => by
  unfold onlyC at e
  split at e
  · rename_i z
    subst z
    cases e
    obtain ⟨fd, h2, h3⟩ := D.ex
    exact ⟨cl, fa, hm, cal_fn h3 hr hgu (FunD.kbq h2 bd) tk⟩
  · cases e
theorem at_fld {cs : List Nat} {i : Nat} (h : ∀ c ∈ cs, Cls X.K (N.ca c) ∧ NoAttr X.K (N.ca c) (N.an i)) : ∀ d, AtOk X N i d (atF cs d) := fun d => by
  unfold atF
  split
  · rename_i z
    exact ⟨fun _ => h d z, fun G e => by cases e⟩
  · exact ⟨fun e => (by cases e), fun G e => by cases e⟩
theorem at_prop {c i : Nat} {pr gt : Addr} {G : List W → Heap → R} (cl : Cls X.K (N.ca c)) (hp : PropOf X.K (N.ca c) (N.an i) pr gt) (D : GtOk X.prog X.w X.K X.mg X.base N k gt G) (hr : Room (k + 1) X.A) : ∀ d, AtOk X N i d (atP c G d) := fun d => by
  unfold atP
  split
  · rename_i z
    subst z
    obtain ⟨fd, h1, h2⟩ := D.ex
    exact ⟨fun e => (by cases e), fun G' e => by cases e; exact ⟨cl, pr, gt, k, fd, ["self"], hp, h1, hr, h2⟩⟩
  · exact ⟨fun e => (by cases e), fun G e => by cases e⟩
theorem set_ok {cs : List Nat} {i : Nat} (h : ∀ c ∈ cs, Cls X.K (N.ca c) ∧ NoAttr X.K (N.ca c) (N.an i)) : ∀ c, (decide (c ∈ cs)) = true → Cls X.K (N.ca c) ∧ NoAttr X.K (N.ca c) (N.an i) := fun c e => h c (of_decide_eq_true e)
/-- never reached -/
def sBad : SS := fun _ _ => .bad
def eBad : SE := fun _ _ => .bad
theorem s_bad {st : Stmt} : PS X st (LS X.K N Wx sBad) := ⟨fun _ _ _ _ _ _ h => by obtain ⟨_, _, _, _, _, z⟩ := h; exact z.elim⟩
theorem r_bad {e : PySem.Expr} : PE X e (LE X.K N Wx eBad) := ⟨fun _ _ _ _ _ _ h => by obtain ⟨_, _, _, _, _, z⟩ := h; exact z.elim⟩
end
/-! ### what the head is asked -/
section
open He
/-- places of a class's things -/
def pad (K : PySem.W.Frag) (C : Addr) (f : Str) : Addr := match PySem.W.findIn K (.ref C) f with
  | some (some (.ref p)) => p
  | _ => 0
def gad (K : PySem.W.Frag) (p : Addr) : Addr := match PySem.W.recIn K p "property" with
  | some (.ref g :: _) => g
  | _ => 0
inductive Fc where
  | fa (f : Fa) | tup (x : Str) (ds : List Dv) | prop (x f : Str) | idc (x : Str) | ins (x : Str) | kit (t : String) (x : Str) (b : Bool) | kitC (y x : Str) (b : Bool) | chk (f : PySem.W.Frag → Bool)
def Fc.ok (K : PySem.W.Frag) : Fc → Bool
  | .fa f => f.ok K
  | .tup x ds => tupB K x ds
  | .prop x f => decide (PySem.W.findIn K (.ref (ga K x)) f = some (some (.ref (pad K (ga K x) f)))) && (decide (PySem.W.specialIn K (.ref (pad K (ga K x) f)) "__get__" = some (some (.builtin "property.__get__"))) && (decide (PySem.W.takesIn K (.ref (pad K (ga K x) f)) = some true) &&
      (match PySem.W.recIn K (pad K (ga K x) f) "property" with
      | some (.ref g :: _) => decide (g = gad K (pad K (ga K x) f))
      | _ => false)))
  | .idc x => decide (PySem.W.mroIn K (ga K x) (.type "object") = some true) && (decide (PySem.W.findIn K (.ref (ga K x)) "__eq__" = some (some (.builtin "object.__eq__"))) && decide (PySem.W.findIn K (.ref (ga K x)) "__ne__" = some (some (.builtin "object.__ne__"))))
  | .ins x => decide (PySem.W.findIn K (.ref (ga K x)) "__class__" = some (some (.builtin "object.__class__"))) && (decide (PySem.W.specialIn K (.builtin "object.__class__") "__get__" = some (some (.builtin "getset_descriptor.__get__"))) && (decide (PySem.W.takesIn K (.builtin "object.__class__") = some true) && decide (PySem.W.mroIn K (ga K x) (.type "object") = some true)))
  | .kit t x b => decide (PySem.W.kitOne K (.type t) (.ref (ga K x)) = some b)
  | .kitC y x b => decide (PySem.W.kitOne K (.ref (ga K y)) (.ref (ga K x)) = some b)
  | .chk f => f K
theorem prop_ok {K : PySem.W.Frag} {x f : Str} (c : (Fc.prop x f).ok K = true) : PropOf K (ga K x) f (pad K (ga K x) f) (gad K (pad K (ga K x) f)) := by
  obtain ⟨h1, c⟩ := ba c
  obtain ⟨h2, c⟩ := ba c
  obtain ⟨h3, c⟩ := ba c
  refine ⟨of_decide_eq_true h1, of_decide_eq_true h2, of_decide_eq_true h3, ?_⟩
  split at c
  · rename_i g r e
    have e2 := of_decide_eq_true c
    subst e2
    exact ⟨r, e⟩
  · cases c
theorem idc_ok {K : PySem.W.Frag} {x : Str} (c : (Fc.idc x).ok K = true) : IdC K (ga K x) := by
  obtain ⟨h1, c⟩ := ba c
  obtain ⟨h2, h3⟩ := ba c
  exact ⟨of_decide_eq_true h1, of_decide_eq_true h2, of_decide_eq_true h3⟩
/-- one def: its place by names, its names, its text -/
structure DefE where
  ad : PySem.W.Frag → Addr
  name : Str
  qual : Str
  st : Stmt
def fnE (K : PySem.W.Frag) (a : Addr) : FnW := match K.lookup a with
  | some ⟨_, _, .func fd, _⟩ => some (fd.name, fd.qualname, fd.params, fd.body, fd.scope, fd.globals, fd.closure, fd.builtins)
  | _ => none
def DefE.val (d : DefE) : FnW := some (d.name, d.qual, defArgs d.st, .stmts (defBody d.st), defScope d.st, mainGlobals, [], builtinsNs)
def DefE.ok (K : PySem.W.Frag) (d : DefE) : Bool := PySem.W.keepIn K (.ref (d.ad K)) && (match K.lookup (d.ad K) with
  | some ⟨_, _, .func fd, _⟩ => PySem.W.codeIn K fd.code d.qual && dflB K fd.defaults []
  | _ => false)
theorem DefE.at_ {K : PySem.W.Frag} {d : DefE} (e : fnE K (d.ad K) = d.val) (c : d.ok K = true) : FnAt K (d.ad K) d.name d.qual d.st := by
  obtain ⟨kp, c2⟩ := ba c
  unfold fnE at e
  split at e
  · rename_i oc od fd osl q
    rw [q] at c2
    obtain ⟨k1, k3⟩ := ba c2
    obtain ⟨n1, n2, n3, n4, n5, n6, n7, n8, n9, n10, n11, n12, n13, n14, n15⟩ := fd
    simp only [DefE.val, Option.some.injEq, Prod.mk.injEq] at e
    obtain ⟨rfl, rfl, rfl, rfl, rfl, rfl, rfl, rfl⟩ := e
    exact ⟨_, ⟨oc, od, n8, n9, n10, n11, n12, n13, n14, osl, rfl, q, k1, dflB_ok k3, .inl rfl⟩, kp⟩
  · cases e
abbrev AlE : Type := Bool × List FnW
def obsC (fc : List Fc) (fn : List DefE) (K : PySem.W.Frag) : AlE := ((fc.all fun f => f.ok K) && fn.all fun d => d.ok K, fn.map fun d => fnE K (d.ad K))
def valC (fn : List DefE) : AlE := (true, fn.map DefE.val)
def obsCG (n : Nat) (fc : List Fc) (fn : List DefE) (g : Addr → Option Obj) : AlE := obsC fc fn (frG g (cStatics :: asD g n))
def SaysC (fc : List Fc) (fn : List DefE) (K : PySem.W.Frag) : Prop := obsC fc fn K = valC fn
def hookC (n : Nat) (fc : List Fc) (fn : List DefE) : PySem.W.Hook where
  α := AlE
  obs := fun s => obsCG n fc fn s.heap.get?
  val := fun _ => valC fn
  says := fun _ h => ∃ K : PySem.W.Frag, K.In h ∧ SaysC fc fn K
  of := fun _ _ e => ⟨_, frG_in, e⟩
  keeps := fun _ _ _ ⟨K, hK, c⟩ k => ⟨K, PySem.W.Frag.In.keeps hK k, c⟩
theorem obsCG_eq {n : Nat} {fc : List Fc} {fn : List DefE} {g : Addr → Option Obj} {s : Shared} (h : ∀ a, g a = s.heap.get? a) : obsCG n fc fn g = (hookC n fc fn).obs s := by
  have e : g = s.heap.get? := funext h
  rw [e] <;> rfl
variable {fc : List Fc} {fn : List DefE} {K : PySem.W.Frag}
theorem SaysC.fact (c : SaysC fc fn K) (i : Nat) {f : Fc} (h : fc[i]? = some f := by rfl) : f.ok K = true :=
  List.all_eq_true.mp (ba (show ((fc.all fun f => f.ok K) && fn.all fun d => d.ok K) = true from congrArg (fun z : AlE => z.1) c)).1 f (List.mem_of_getElem? h)
theorem SaysC.fa (c : SaysC fc fn K) (i : Nat) {f : Fa} (h : fc[i]? = some (.fa f) := by rfl) : f.ok K = true := SaysC.fact c i h
theorem SaysC.tup (c : SaysC fc fn K) (i : Nat) {x : Str} {ds : List Dv} (h : fc[i]? = some (.tup x ds) := by rfl) : tupB K x ds = true := SaysC.fact c i h
theorem SaysC.def_ (c : SaysC fc fn K) (i : Nat) {d : DefE} (h : fn[i]? = some d := by rfl) : FnAt K (d.ad K) d.name d.qual d.st := by
  have c2 := (ba (show ((fc.all fun f => f.ok K) && fn.all fun d => d.ok K) = true from congrArg (fun z : AlE => z.1) c)).2
  have e : fn.map (fun d => fnE K (d.ad K)) = fn.map DefE.val := congrArg (fun z : AlE => z.2) c
  have e2 : (fn.map fun d => fnE K (d.ad K))[i]? = (fn.map DefE.val)[i]? := by rw [e]
  rw [List.getElem?_map, List.getElem?_map, h] at e2
  exact DefE.at_ (Option.some.inj e2) (List.all_eq_true.mp c2 d (List.mem_of_getElem? h))
end
/-- class 0 is compared by identity -/
def idF (c : Nat) : Bool := decide (c = 0)
end Ev
set_option maxRecDepth 100000
/-! EvBlt3: methods of lists, in-place operators. -/
namespace Ev
open PySem L2
def mAppend : W → List W → Heap → R
  | .ref n, [w], h => match h.get n with
    | some (.lst xs) => if xs.length < sizeLine then .ok .non (h.put n (.lst (xs ++ [w]))) else .bad
    | _ => .bad
  | _, _, _ => .bad
def mPop : W → List W → Heap → R
  | .ref n, [], h => match h.get n with
    | some (.lst xs) => match xs[xs.length - 1]? with
      | some w => .ok w (h.put n (.lst xs.dropLast))
      | none => .bad
    | _ => .bad
  | .ref n, [.int i], h => match h.get n with
    | some (.lst xs) => if 0 ≤ i ∧ i < 2 ^ 63 then match xs[i.toNat]? with
      | some w => .ok w (h.put n (.lst (xs.eraseIdx i.toNat)))
      | none => .bad
      else .bad
    | _ => .bad
  | _, _, _ => .bad
def intsOf : List W → Option (List Int)
  | [] => some []
  | .int b :: r => (intsOf r).map (b :: ·)
  | _ => none
def mCount : W → List W → Heap → R
  | w, [.int k], h => match (seqW h w).bind intsOf with
    | some ns => .ok (.int (ns.count k : Nat)) h
    | none => .bad
  | _, _, _ => .bad
theorem VRs.dropLast' {K : PySem.W.Frag} {ρ : List Addr} {H : Hp} {xs : List W} {ys : List V} (r : VRs K ρ H xs ys) : VRs K ρ H xs.dropLast ys.dropLast := by
  rw [List.dropLast_eq_take, List.dropLast_eq_take, r.length]
  exact r.take _
theorem VRs.erase {K : PySem.W.Frag} {ρ : List Addr} {H : Hp} : ∀ {xs : List W} {ys : List V} (i : Nat), VRs K ρ H xs ys → VRs K ρ H (xs.eraseIdx i) (ys.eraseIdx i)
  | _, _, _, .nil => .nil
  | _, _, 0, .cons _ r => r
  | _, _, i + 1, .cons q r => .cons q (VRs.erase i r)
section
variable {X : Cx} {N : Nm}
theorem okm_append : BmOk X N "list.append" mAppend := by
  refine ⟨_, mt_append, fun ρ h H w ws v vs Q E hr rw_ rws o => ?_⟩
  unfold mAppend at o
  split at o
  · rename_i n w'
    cases rw_ with
    | ref q =>
      match vs, rws with
      | [u], .cons p .nil =>
        split at o
        · rename_i xs e
          split at o
          · rename_i hz
            obtain ⟨ys, h1, h2⟩ := lst_mut hr e q
            obtain ⟨w1, w2⟩ := hr.setL q h1 (h2.append (.cons p .nil))
            exact ⟨_, ys, u, rfl, rfl, h1, by rw [← h2.length]; exact hz, o ρ _ _ (Ex.put q w2) w1 .non⟩
          · exact o.elim
        · exact o.elim
  · exact o.elim
theorem okm_pop : BmOk X N "list.pop" mPop := by
  refine ⟨_, MtR.or mt_pop mt_popAt, fun ρ h H w ws v vs Q E hr rw_ rws o => ?_⟩
  unfold mPop at o
  split at o
  · rename_i n
    cases rw_ with
    | ref q =>
      cases rws
      split at o
      · rename_i xs e
        split at o
        · rename_i w' e2
          obtain ⟨ys, h1, h2⟩ := lst_mut hr e q
          obtain ⟨y, g1, g2⟩ := h2.get e2
          obtain ⟨w1, w2⟩ := hr.setL q h1 h2.dropLast'
          exact .inl ⟨_, ys, y, rfl, rfl, h1, by rw [← h2.length]; exact g1, o ρ _ _ (Ex.put q w2) w1 (g2.ex (Ex.put q w2))⟩
        · exact o.elim
      · exact o.elim
  · rename_i n i
    cases rw_ with
    | ref q =>
      match vs, rws with
      | [u], .cons qi .nil =>
        cases qi
        split at o
        · rename_i xs e
          split at o
          · rename_i hz
            split at o
            · rename_i w' e2
              obtain ⟨ys, h1, h2⟩ := lst_mut hr e q
              obtain ⟨y, g1, g2⟩ := h2.get e2
              obtain ⟨w1, w2⟩ := hr.setL q h1 (h2.erase i.toNat)
              have lt : i.toNat < ys.length := (List.getElem?_eq_some_iff.mp g1).1
              exact .inr ⟨_, ys, i, i.toNat, y, rfl, rfl, h1, by omega, hz.2, by unfold seqIndex?; simp; omega, g1, o ρ _ _ (Ex.put q w2) w1 (g2.ex (Ex.put q w2))⟩
            · exact o.elim
          · exact o.elim
        · exact o.elim
  · exact o.elim
theorem ints_in {K : PySem.W.Frag} {ρ : List Addr} {H : Hp} : ∀ {xs : List W} {ys : List V} {bs : List Int}, intsOf xs = some bs → VRs K ρ H xs ys → ys = bs.map V.int
  | [], [], bs, e, .nil => by simp [intsOf] at e; subst e; rfl
  | x :: xs, y :: ys, bs, e, .cons q r => by
    cases q with
    | int b =>
      simp only [intsOf, Option.map_eq_some_iff] at e
      obtain ⟨cs, e, rfl⟩ := e
      rw [ints_in e r]
      rfl
    | _ => simp [intsOf] at e
theorem okm_count : BmOk X N "list.count" mCount := by
  refine ⟨_, mt_lcount, fun ρ h H w ws v vs Q E hr rw_ rws o => ?_⟩
  unfold mCount at o
  split at o
  · rename_i w k
    match vs, rws with
    | [u], .cons qi .nil =>
      cases qi
      split at o
      · rename_i ns e
        obtain ⟨xs, e1, e2⟩ := Option.bind_eq_some_iff.mp e
        obtain ⟨p, ys, rfl, h1, h2⟩ := seqW_in hr e1 rw_
        rw [ints_in e2 h2] at h1
        exact ⟨p, ns, k, rfl, rfl, h1, o.val hr (.int _)⟩
      · exact o.elim
  · exact o.elim
/-! in-place -/
def sAug (i : Nat) (op : W → W → Heap → R) (f : SE) : SS := fun ls h => match ls[i]? with
  | some (some x) => match (f ls h).bind fun y h1 => op x y h1 with
    | .ok w h2 => .nx (ls.set i (some w)) h2
    | .exc c fs h2 => .exc c fs ls h2
    | .bad => .bad
  | _ => .bad
theorem s_aug {Wx : WX} {pos pos' : Pos} {e : PySem.Expr} {o : Operator} {i : Nat} {x : Str} {op : W → W → Heap → R} {f : SE} (hN : X.N.Nodup) (hi : X.N[i]? = some x) (hx : Loc X.env.scope x) (ho : OpOk X N (inplaceOp o) op) (he : PE X e (LE X.K N Wx f)) (hf : X.fn x = true ∨ X.env.scope.names.lookup x = some .local := by first | exact .inl rfl | exact .inr rfl | assumption) :
    PS X (.AugAssign (.Name x pos') o e pos) (LS X.K N Wx (sAug i op f)) := by
  obtain ⟨r, h1, h2⟩ := ho
  refine PS.imp (ps_aug hN hi hx he h1 hf) fun D σ H h => ?_
  obtain ⟨ρ, ls, hp, l, hr, oo⟩ := h
  unfold sAug at oo
  split at oo
  · rename_i x e1
    obtain ⟨v, g1, g2⟩ := l.get i x e1
    refine ⟨v, g1, ρ, ls, hp, l, hr, ?_⟩
    cases e2 : f ls hp with
    | ok y h3 =>
      rw [e2] at oo
      intro ρ1 H1 u ex1 r1 ry
      refine h2 ρ1 h3 H1 x y v u _ (fun c d H' => Wx c d σ H') r1 (g2.ex ex1) ry ?_
      simp only [R.bind_ok] at oo
      cases e3 : op x y h3 with
      | ok w h4 => rw [e3] at oo; exact fun ρ2 H2 z ex2 r2 rz => oo ρ2 _ H2 (ex1.trans ex2) (((l.ex ex1).ex ex2).set i rz) r2
      | exc c fs h4 => rw [e3] at oo; exact fun ρ2 H2 d ex2 r2 rz => oo ρ2 σ H2 d (ex1.trans ex2) ((l.ex ex1).ex ex2) r2 rz
      | bad => rw [e3] at oo; exact oo.elim
    | exc c fs h3 => rw [e2] at oo; exact fun ρ1 H1 d ex1 r1 z => oo ρ1 σ H1 d ex1 (l.ex ex1) r1 z
    | bad => rw [e2] at oo; exact oo.elim
  · exact oo.elim
def wIadd : W → W → Heap → R
  | .int i, .int j, h => .ok (.int (i + j)) h
  | .str s, .str t, h => if s.length + t.length ≤ sizeLine then .ok (.str (s ++ t)) h else .bad
  | _, _, _ => .bad
def wIsub : W → W → Heap → R
  | .int i, .int j, h => .ok (.int (i - j)) h
  | _, _, _ => .bad
theorem ok_iadd : OpOk X N (inplaceOp .Add) wIadd := by
  refine ⟨_, iop_add.or iop_add_str, fun ρ h H x y v u Q E hr rx ry o => ?_⟩
  unfold wIadd at o
  split at o
  · cases rx; cases ry; exact .inl ⟨_, _, rfl, rfl, o.val hr (.int _)⟩
  · split at o
    · cases rx; cases ry; exact .inr ⟨_, _, rfl, rfl, by assumption, o.val hr (.str _)⟩
    · exact o.elim
  · exact o.elim
theorem ok_isub : OpOk X N (inplaceOp .Sub) wIsub := by
  refine ⟨_, iop_sub, fun ρ h H x y v u Q E hr rx ry o => ?_⟩
  unfold wIsub at o
  split at o
  · cases rx; cases ry; exact ⟨_, _, rfl, rfl, o.val hr (.int _)⟩
  · exact o.elim
/-- a, b, c = x, y, z with plain local names -/
def sPar3 (i j l : Nat) (gs : SEs) : SS := fun ls h => match gs ls h with
  | .ok [u, v, w] h1 => .nx (((ls.set i (some u)).set j (some v)).set l (some w)) h1
  | .ok _ _ => .bad
  | .exc c fs h1 => .exc c fs ls h1
  | .bad => .bad
theorem s_par3 {Wx : WX} {i j l : Nat} {x y z : Str} {a b c : PySem.Expr} {gs : SEs} {px py pz pt pos : Pos} {kt k2 pt2} (hc : X.calm = true) (hN : X.N.Nodup) (hi : X.N[i]? = some x) (hj : X.N[j]? = some y) (hl : X.N[l]? = some z) (hij : i ≠ j) (hil : i ≠ l) (hjl : j ≠ l)
    (hx : X.env.scope.names.lookup x = some .local) (hy : X.env.scope.names.lookup y = some .local) (hz : X.env.scope.names.lookup z = some .local) (ha : PA X [a, b, c] (LA X.K N Wx gs))
    (hw : swappedStores [.Tuple [.Name x px, .Name y py, .Name z pz] kt pt] (.Tuple [a, b, c] k2 pt2) X.env = pure (some [x, y, z]))
    (hs : swapsWithSole [.Tuple [.Name x px, .Name y py, .Name z pz] kt pt] (.Tuple [a, b, c] k2 pt2) pos.line X.env = pure false := by rfl) :
    PS X (.Assign [.Tuple [.Name x px, .Name y py, .Name z pz] kt pt] (.Tuple [a, b, c] k2 pt2) pos) (LS X.K N Wx (sPar3 i j l gs)) := by
  refine PS.imp (ps_par3 hc hN hi hj hl hij hil hjl hx hy hz ha hw hs) fun D σ H h => ?_
  obtain ⟨ρ, ls, hp, lr, hr, o⟩ := h
  refine ⟨ρ, ls, hp, lr, hr, ?_⟩
  unfold sPar3 at o
  cases e : gs ls hp with
  | ok ws h1 =>
    rw [e] at o
    intro ρ' H' vs ex r q
    match ws, vs, q, o with
    | [], _, _, o => exact o.elim
    | [_], _, _, o => exact o.elim
    | [_, _], _, _, o => exact o.elim
    | [u, v, w], _, .cons q1 (.cons q2 (.cons q3 .nil)), o => exact ⟨_, _, _, rfl, o ρ' _ H' ex ((((lr.ex ex).set i q1).set j q2).set l q3) r⟩
    | _ :: _ :: _ :: _ :: _, _, _, o => exact o.elim
  | exc c fs h1 => rw [e] at o; exact fun ρ' H' d ex r z => o ρ' σ H' d ex (lr.ex ex) r z
  | bad => rw [e] at o; exact o.elim
/-! isinstance with an own class -/
def isiA (c : Nat) : Ty → Option Bool
  | .c n => if n = c then some true else none
  | .b t => if t = "NoneType" ∨ t = "int" ∨ t = "str" ∨ t = "bool" ∨ t = "list" ∨ t = "tuple" ∨ t = "dict" then some false else none
structure IsA (K : PySem.W.Frag) (N : Nm) (c : Nat) : Prop where
  cl : Cls K (N.ca c)
  ins : PySem.W.findIn K (.ref (N.ca c)) "__class__" = some (some (.builtin "object.__class__")) ∧
    PySem.W.specialIn K (.builtin "object.__class__") "__get__" = some (some (.builtin "getset_descriptor.__get__")) ∧ PySem.W.takesIn K (.builtin "object.__class__") = some true ∧ PySem.W.mroIn K (N.ca c) (.type "object") = some true
  own : PySem.W.kitOne K (.ref (N.ca c)) (.ref (N.ca c)) = some true
  oth : ∀ t, t = "NoneType" ∨ t = "int" ∨ t = "str" ∨ t = "bool" ∨ t = "list" ∨ t = "tuple" ∨ t = "dict" → PySem.W.kitOne K (.type t) (.ref (N.ca c)) = some false
def eIsi (ans : Ty → Option Bool) (f : SE) : SE := eUn (fun x h => match tyOf h x with
  | some t => match ans t with
    | some b => .ok (.bl b) h
    | none => .bad
  | none => .bad) f
theorem r_isiC {Wx : WX} {p p2 pos : Pos} {e : PySem.Expr} {y : Str} {c : Nat} {f : SE} (A : IsA X.K N c) (gC : X.mg y = some (.ref (N.ca c))) (hm : X.mg "isinstance" = none) (he : PE X e (LE X.K N Wx f)) (hg : Gl X "isinstance" := by rfl) (hgC : Gl X y := by rfl) (hdb : (y == ("__debug__" : Str)) = false := by decide)
    (hs : starEach [e, .Name y p2] X.env = (false, eval e X.env) :: starEach [.Name y p2] X.env := by rfl) (hs2 : starEach [.Name y p2] X.env = (false, eval (.Name y p2) X.env) :: starEach [] X.env := by rfl) (hpl : (backTo pos (starEach [.Name y p2] X.env)).any (·.1) = false := by rfl) :
    PE X (.Call (.Name "isinstance" p) [e, .Name y p2] [] pos) (LE X.K N Wx (eIsi (isiA c) f)) := by
  refine PE.imp (pe_callB call_isi hg hm bt_isinstance (pa_cons he (pa_cons (pe_glob (v := .ref (N.ca c)) hgC gC rfl hdb) pa_nil hs2) hs) (by decide) (by decide) hs hpl) fun σ H Q h => ?_
  refine one_in h fun ρ ls h H x v l hr rx o => ?_
  cases et : tyOf h x with
  | none => rw [et] at o; exact o.elim
  | some t =>
    rw [et] at o
    cases eb : isiA c t with
    | none => simp only [eb] at o; exact o.elim
    | some b =>
      simp only [eb] at o
      cases t with
      | c n =>
        have z : n = c ∧ b = true := by
          unfold isiA at eb
          by_cases z : n = c
          · simp [z] at eb; exact ⟨z, eb⟩
          · simp [z] at eb
        obtain ⟨rfl, rfl⟩ := z
        exact ⟨v, .ref (N.ca n), _, _, true, rfl, .own _, ty_in hr rx et (fun n' z => by cases z; exact ⟨A.cl, A.ins⟩), A.own, o.val hr (.bl _)⟩
      | b t =>
        unfold isiA at eb
        by_cases z : t = "NoneType" ∨ t = "int" ∨ t = "str" ∨ t = "bool" ∨ t = "list" ∨ t = "tuple" ∨ t = "dict"
        · simp only [if_pos z, Option.some.injEq] at eb
          subst eb
          exact ⟨v, .ref (N.ca c), _, _, false, rfl, .own _, ty_in hr rx et (fun n' z => by cases z), A.oth t z, o.val hr (.bl _)⟩
        · simp only [if_neg z] at eb
          cases eb
theorem isA_of {K : PySem.W.Frag} {N : Nm} {c : Nat} {x : Str} (e : N.ca c = He.ga K x) (h1 : Cls K (He.ga K x)) (h2 : (Fc.ins x).ok K = true) (h3 : (Fc.kitC x x true).ok K = true)
    (t1 : (Fc.kit "NoneType" x false).ok K = true) (t2 : (Fc.kit "int" x false).ok K = true) (t3 : (Fc.kit "str" x false).ok K = true) (t4 : (Fc.kit "bool" x false).ok K = true) (t5 : (Fc.kit "list" x false).ok K = true) (t6 : (Fc.kit "tuple" x false).ok K = true) (t7 : (Fc.kit "dict" x false).ok K = true) : IsA K N c := by
  obtain ⟨i1, i⟩ := He.ba h2
  obtain ⟨i2, i⟩ := He.ba i
  obtain ⟨i3, i4⟩ := He.ba i
  refine ⟨by rw [e]; exact h1, by rw [e]; exact ⟨of_decide_eq_true i1, of_decide_eq_true i2, of_decide_eq_true i3, of_decide_eq_true i4⟩, by rw [e]; exact of_decide_eq_true h3, fun t ht => ?_⟩
  rw [e]
  rcases ht with rfl | rfl | rfl | rfl | rfl | rfl | rfl
  · exact of_decide_eq_true t1
  · exact of_decide_eq_true t2
  · exact of_decide_eq_true t3
  · exact of_decide_eq_true t4
  · exact of_decide_eq_true t5
  · exact of_decide_eq_true t6
  · exact of_decide_eq_true t7
theorem at_fld1 {c i : Nat} (h1 : Cls X.K (N.ca c)) (h2 : NoAttr X.K (N.ca c) (N.an i)) : ∀ d, AtOk X N i d (atF [c] d) := at_fld fun c' m => by
  obtain rfl := List.mem_singleton.mp m
  exact ⟨h1, h2⟩
/-- classes that have the field -/
def okF (cs : List Nat) (d : Nat) : Bool := decide (d ∈ cs)
theorem set_ok1 {c i : Nat} (h1 : Cls X.K (N.ca c)) (h2 : NoAttr X.K (N.ca c) (N.an i)) : ∀ d, okF [c] d = true → Cls X.K (N.ca d) ∧ NoAttr X.K (N.ca d) (N.an i) := set_ok fun c' m => by
  obtain rfl := List.mem_singleton.mp m
  exact ⟨h1, h2⟩
end
end Ev
set_option maxRecDepth 100000
/-! EvPost2: what must hold, for instances, while, methods of lists. -/
namespace Ev
open PySem L2
section
variable {ls : Ls} {h : Heap} {Q : W → Heap → Prop} {E : Nat → List (Nat × W) → Heap → Prop} {P : Po}
theorem calm_to {r : R} : r.calm.to Q E ↔ r.to Q fun _ _ _ => False := by cases r <;> rfl
@[simp] theorem x_fld {c i : Nat} {f : SE} : (eAttr (atF [c]) i f ls h).to Q E ↔ (f ls h).to (fun x h1 => ∃ n fs w, x = .ref n ∧ h1.get n = some (.ins c fs) ∧ fGet fs i = some w ∧ Q w h1) E := by
  unfold eAttr
  rw [x_un]
  have : ∀ (x : W) (h1 : Heap), R.to (match x with
    | .ref n => match h1.get n with
      | some (.ins d fs) => match atF [c] d with
        | .fld => match fGet fs i with
          | some w => R.ok w h1
          | none => .bad
        | .prop G => (G [.ref n] h1).calm
        | .none => .bad
      | _ => .bad
    | _ => .bad) Q E ↔ ∃ n fs w, x = .ref n ∧ h1.get n = some (.ins c fs) ∧ fGet fs i = some w ∧ Q w h1 := by
    intro x h1
    cases x with
    | ref n =>
      simp only [W.ref.injEq]
      split
      · rename_i d fs e
        by_cases z : d = c
        · subst z
          simp only [atF, List.mem_singleton, if_true]
          split
          · rename_i w e2
            constructor
            · intro q; exact ⟨n, fs, w, rfl, e, e2, q⟩
            · rintro ⟨n', fs', w', rfl, e', e2', q⟩; rw [e] at e'; cases e'; rw [e2] at e2'; cases e2'; exact q
          · rename_i e2
            constructor
            · exact False.elim
            · rintro ⟨n', fs', w', rfl, e', e2', q⟩; rw [e] at e'; cases e'; rw [e2] at e2'; cases e2'
        · simp only [atF, List.mem_singleton, if_neg z]
          constructor
          · exact False.elim
          · rintro ⟨n', fs', w', rfl, e', _⟩; rw [e] at e'; cases e'; exact (z rfl).elim
      · rename_i n1
        constructor
        · exact False.elim
        · rintro ⟨n', fs', w', rfl, e', _⟩; exact (n1 _ _ e').elim
    | _ => simp
  exact ⟨fun z => R.to_mono z (fun x h1 => (this x h1).mp) fun _ _ _ z => z, fun z => R.to_mono z (fun x h1 => (this x h1).mpr) fun _ _ _ z => z⟩
@[simp] theorem x_prp {c i : Nat} {f : SE} {G : List W → Heap → R} : (eAttr (atP c G) i f ls h).to Q E ↔ (f ls h).to (fun x h1 => ∃ n fs, x = .ref n ∧ h1.get n = some (.ins c fs) ∧ (G [.ref n] h1).to Q fun _ _ _ => False) E := by
  unfold eAttr
  rw [x_un]
  have : ∀ (x : W) (h1 : Heap), R.to (match x with
    | .ref n => match h1.get n with
      | some (.ins d fs) => match atP c G d with
        | .fld => match fGet fs i with
          | some w => R.ok w h1
          | none => .bad
        | .prop G => (G [.ref n] h1).calm
        | .none => .bad
      | _ => .bad
    | _ => .bad) Q E ↔ ∃ n fs, x = .ref n ∧ h1.get n = some (.ins c fs) ∧ (G [.ref n] h1).to Q fun _ _ _ => False := by
    intro x h1
    cases x with
    | ref n =>
      simp only [W.ref.injEq]
      split
      · rename_i d fs e
        by_cases z : d = c
        · subst z
          simp only [atP, if_true, calm_to]
          constructor
          · intro q; exact ⟨n, fs, rfl, e, q⟩
          · rintro ⟨n', fs', rfl, e', q⟩; exact q
        · simp only [atP, if_neg z]
          constructor
          · exact False.elim
          · rintro ⟨n', fs', rfl, e', _⟩; rw [e] at e'; cases e'; exact (z rfl).elim
      · rename_i n1
        constructor
        · exact False.elim
        · rintro ⟨n', fs', rfl, e', _⟩; exact (n1 _ _ e').elim
    | _ => simp
  exact ⟨fun z => R.to_mono z (fun x h1 => (this x h1).mp) fun _ _ _ z => z, fun z => R.to_mono z (fun x h1 => (this x h1).mpr) fun _ _ _ z => z⟩
@[simp] theorem s_gattr' {c i : Nat} {f : SE} {w : W} : (gAttr (okF [c]) i f w ls h).to P ↔ (f ls h).to (fun x h1 => ∃ n fs, x = .ref n ∧ h1.get n = some (.ins c fs) ∧ fs.length < 1000 ∧ P.nx ls (h1.put n (.ins c (fPut i w fs)))) fun c fs h1 => P.ex c fs ls h1 := by
  unfold gAttr
  cases f ls h with
  | ok x h1 =>
    cases x with
    | ref n =>
      simp only [to_ok, W.ref.injEq]
      split
      · rename_i d fs e
        by_cases z : d = c ∧ fs.length < 1000
        · obtain ⟨rfl, z⟩ := z
          simp only [okF, List.mem_singleton, decide_true, true_and, z, if_true, toS_nx]
          constructor
          · intro q; exact ⟨n, fs, rfl, e, z, q⟩
          · rintro ⟨n', fs', rfl, e', _, q⟩; rw [e] at e'; cases e'; exact q
        · rw [if_neg (by simpa [okF] using z)]
          constructor
          · exact False.elim
          · rintro ⟨n', fs', rfl, e', z', q⟩; rw [e] at e'; cases e'; exact (z ⟨rfl, z'⟩).elim
      · rename_i n1
        constructor
        · exact False.elim
        · rintro ⟨n', fs', rfl, e', _⟩; exact (n1 _ _ e').elim
    | _ => simp
  | exc => rfl
  | bad => rfl
@[simp] theorem x_isi {ans : Ty → Option Bool} {f : SE} : (eIsi ans f ls h).to Q E ↔ (f ls h).to (fun x h1 => ∃ t b, tyOf h1 x = some t ∧ ans t = some b ∧ Q (.bl b) h1) E := by
  unfold eIsi
  rw [x_un]
  have : ∀ (x : W) (h1 : Heap), R.to (match tyOf h1 x with
    | some t => match ans t with
      | some b => .ok (.bl b) h1
      | none => .bad
    | none => .bad) Q E ↔ ∃ t b, tyOf h1 x = some t ∧ ans t = some b ∧ Q (.bl b) h1 := by
    intro x h1
    split
    · rename_i t e
      split
      · rename_i b e2
        constructor
        · intro q; exact ⟨t, b, e, e2, q⟩
        · rintro ⟨t', b', a1, a2, q⟩; rw [e] at a1; cases a1; rw [e2] at a2; cases a2; exact q
      · rename_i e2
        constructor
        · exact False.elim
        · rintro ⟨t', b', a1, a2, q⟩; rw [e] at a1; cases a1; rw [e2] at a2; cases a2
    · rename_i e
      constructor
      · exact False.elim
      · rintro ⟨t', b', a1, a2, q⟩; rw [e] at a1; cases a1
  exact ⟨fun z => R.to_mono z (fun x h1 => (this x h1).mp) fun _ _ _ z => z, fun z => R.to_mono z (fun x h1 => (this x h1).mpr) fun _ _ _ z => z⟩
@[simp] theorem orO_none {b : Option Bool} : orO none b = b := rfl
@[simp] theorem orO_some {a : Bool} {b : Option Bool} : orO (some a) b = some a := rfl
@[simp] theorem idEq_int {idc : Nat → Bool} {i : Int} {y : W} : idEq idc h (.int i) y = none := rfl
@[simp] theorem idEq_str {idc : Nat → Bool} {i : Str} {y : W} : idEq idc h (.str i) y = none := rfl
@[simp] theorem idEq_tup {idc : Nat → Bool} {i : List W} {y : W} : idEq idc h (.tup i) y = none := rfl
@[simp] theorem idIn_int {idc : Nat → Bool} {i : Int} {y : W} : idIn idc h (.int i) y = none := rfl
@[simp] theorem idIn_str {idc : Nat → Bool} {i : Str} {y : W} : idIn idc h (.str i) y = none := rfl
theorem ofO_to {neg : Bool} {o : Option Bool} : (ofO neg o h).to Q E ↔ ∃ b, o = some b ∧ Q (.bl (if neg then !b else b)) h := by
  cases o <;> simp [ofO]
@[simp] theorem o_eqI {idc : Nat → Bool} {x y : W} : (wEqI idc x y h).to Q E ↔ ∃ b, orO (idEq idc h x y) (eqO h x y) = some b ∧ Q (.bl b) h := by unfold wEqI; rw [ofO_to]; simp
@[simp] theorem o_neI {idc : Nat → Bool} {x y : W} : (wNeI idc x y h).to Q E ↔ ∃ b, orO (idEq idc h x y) (eqO h x y) = some b ∧ Q (.bl (!b)) h := by unfold wNeI; rw [ofO_to]; simp
@[simp] theorem o_inI {idc : Nat → Bool} {x y : W} : (wInI idc x y h).to Q E ↔ ∃ b, orO (idIn idc h x y) (inO h x y) = some b ∧ Q (.bl b) h := by unfold wInI; rw [ofO_to]; simp
@[simp] theorem o_ninI {idc : Nat → Bool} {x y : W} : (wNinI idc x y h).to Q E ↔ ∃ b, orO (idIn idc h x y) (inO h x y) = some b ∧ Q (.bl (!b)) h := by unfold wNinI; rw [ofO_to]; simp
@[simp] theorem s_aug' {i : Nat} {op : W → W → Heap → R} {f : SE} : (sAug i op f ls h).to P ↔ ∃ x, ls[i]? = some (some x) ∧ (f ls h).to (fun y h1 => (op x y h1).to (fun w h2 => P.nx (ls.set i (some w)) h2) fun c fs h1 => P.ex c fs ls h1) fun c fs h1 => P.ex c fs ls h1 := by
  unfold sAug
  split
  · rename_i x e
    simp only [e, Option.some.injEq, exists_eq_left']
    cases f ls h with
    | ok y h1 =>
      simp only [R.bind_ok, to_ok]
      cases op x y h1 <;> rfl
    | exc => rfl
    | bad => rfl
  · rename_i n1
    constructor
    · exact False.elim
    · rintro ⟨x, e, _⟩; exact (n1 x e).elim
@[simp] theorem o_iadd_int {i j : Int} : (wIadd (.int i) (.int j) h).to Q E ↔ Q (.int (i + j)) h := Iff.rfl
@[simp] theorem s_bad' : (sBad ls h).to P ↔ False := Iff.rfl
@[simp] theorem o_append {n : Nat} {w : W} : (mAppend (.ref n) [w] h).to Q E ↔ ∃ xs, h.get n = some (.lst xs) ∧ xs.length < sizeLine ∧ Q .non (h.put n (.lst (xs ++ [w]))) := by
  show R.to (match h.get n with
    | some (.lst xs) => if xs.length < sizeLine then .ok .non (h.put n (.lst (xs ++ [w]))) else .bad
    | _ => .bad) Q E ↔ _
  split
  · rename_i xs e
    rw [to_ifb]
    constructor
    · rintro ⟨z, q⟩; exact ⟨xs, e, z, q⟩
    · rintro ⟨xs', e', z, q⟩; rw [e] at e'; cases e'; exact ⟨z, q⟩
  · rename_i n1
    constructor
    · exact False.elim
    · rintro ⟨xs, e, _⟩; exact (n1 xs e).elim
/-- a while, by an invariant with a measure -/
theorem while_inv {t : SB} {s : SS} (J : Nat → Ls → Heap → Prop) (step : ∀ m ls h, J m ls h → (t ls h).to (fun b h1 => (b = true → (s ls h1).to { nx := fun ls' h' => ∃ m' < m, J m' ls' h', ct := fun ls' h' => ∃ m' < m, J m' ls' h', bk := P.nx, rt := P.rt, ex := P.ex }) ∧ (b = false → P.nx ls h1)) fun c fs h1 => P.ex c fs ls h1) :
    ∀ (n m : Nat) (ls : Ls) (h : Heap), m < n → J m ls h → (whileL t s n ls h).to P
  | 0, m, ls, h, lt, _ => absurd lt (Nat.not_lt_zero m)
  | n + 1, m, ls, h, lt, j => by
    have z := step m ls h j
    rw [whileL]
    cases e : t ls h with
    | ok b h1 =>
      rw [e] at z
      cases b with
      | true =>
        have z := z.1 rfl
        simp only
        cases e2 : s ls h1 with
        | nx ls2 h2 => rw [e2] at z; obtain ⟨m', l, j'⟩ := z; exact while_inv J step n m' ls2 h2 (by omega) j'
        | ct ls2 h2 => rw [e2] at z; obtain ⟨m', l, j'⟩ := z; exact while_inv J step n m' ls2 h2 (by omega) j'
        | bk ls2 h2 => rw [e2] at z; exact z
        | rt w h2 => rw [e2] at z; exact z
        | exc c fs ls2 h2 => rw [e2] at z; exact z
        | bad => rw [e2] at z; exact z
      | false => exact z.2 rfl
    | exc c fs h1 => rw [e] at z; exact z
    | bad => rw [e] at z; exact z
@[simp high] theorem s_par2q {i j : Nat} {gs : SEs} : (sPar2 i j gs ls h).to P ↔ (gs ls h).to (fun xs h1 => match xs with
    | [v, w] => P.nx ((ls.set i (some v)).set j (some w)) h1
    | _ => False) fun c fs h1 => P.ex c fs ls h1 := by
  unfold sPar2
  cases gs ls h with
  | ok xs h1 =>
    match xs with
    | [] => rfl
    | [_] => rfl
    | [v, w] => rfl
    | _ :: _ :: _ :: _ => rfl
  | exc => rfl
  | bad => rfl
@[simp] theorem s_par3q {i j l : Nat} {gs : SEs} : (sPar3 i j l gs ls h).to P ↔ (gs ls h).to (fun xs h1 => match xs with
    | [v, w, u] => P.nx (((ls.set i (some v)).set j (some w)).set l (some u)) h1
    | _ => False) fun c fs h1 => P.ex c fs ls h1 := by
  unfold sPar3
  cases gs ls h with
  | ok xs h1 =>
    match xs with
    | [] => rfl
    | [_] => rfl
    | [_, _] => rfl
    | [v, w, u] => rfl
    | _ :: _ :: _ :: _ :: _ => rfl
  | exc => rfl
  | bad => rfl
end
end Ev
set_option maxRecDepth 100000
namespace EvF
open PySem L2 Ev
def s_is_letter : SS := sRet (eOr (eChain wLe2 wLe2 (eW (.str "a")) (eVar 0) (eW (.str "z"))) (eChain wLe2 wLe2 (eW (.str "A")) (eVar 0) (eW (.str "Z"))))
@[irreducible] def F_is_letter : List W → Ev.Heap → R := fnOf 1 1 s_is_letter
def s_is_kind : SS := sSeq (sIf (bOr (bNot (bTru (eB (bIsi clNo) (aCons (eVar 0) (aCons (eW (.ty "str")) (aNil)))))) (bNot (bVal (eChain wLe2 wLe2 (eW (.int 1)) (eB bLen (aCons (eVar 0) (aNil))) (eW (.int 12)))))) (sRet (eW (.bl false))) (sNil)) (sRet (eAnd (eChain wLe2 wLe2 (eW (.str "A")) (eBin wIx (eVar 0) (eW (.int 0))) (eW (.str "Z"))) (eB bAll (aCons (eComp [1] (.one 1) (iSeq (eVar 0)) (bYes) (eCall (fun xs ys h => F_is_letter (pick [(false, 0)] xs ys) h) 1 0 (aCons (eVar 1) (aNil)) (aNil))) (aNil)))))
@[irreducible] def F_is_kind : List W → Ev.Heap → R := fnOf 1 2 s_is_kind
def s_is_label : SS := sSeq (sIf (bOr (bNot (bTru (eB (bIsi clNo) (aCons (eVar 0) (aCons (eW (.ty "str")) (aNil)))))) (bVal (eBin wGt2 (eB bLen (aCons (eVar 0) (aNil))) (eW (.int 40))))) (sRet (eW (.bl false))) (sNil)) (sRet (eB bAll (aCons (eComp [1] (.one 1) (iSeq (eVar 0)) (bYes) (eAnd (eChain wLe2 wLe2 (eW (.int 32)) (eB bOrd (aCons (eVar 1) (aNil))) (eW (.int 126))) (eBin wNe (eB bOrd (aCons (eVar 1) (aNil))) (eW (.int 37))))) (aNil))))
@[irreducible] def F_is_label : List W → Ev.Heap → R := fnOf 1 2 s_is_label
def s_Fault___init__ : SS := sSeq (sIf (bNot (bTru (eCall (fun xs ys h => F_is_kind (pick [(false, 0)] xs ys) h) 1 0 (aCons (eVar 1) (aNil)) (aNil)))) (sBad) (sNil)) (sSeq (sIf (bNot (bTru (eCall (fun xs ys h => F_is_label (pick [(false, 0)] xs ys) h) 1 0 (aCons (eVar 2) (aNil)) (aNil)))) (sBad) (sNil)) (sSeq (sIf (bOr (bNot (bTru (eB (bIsi clNo) (aCons (eVar 3) (aCons (eW (.ty "int")) (aNil)))))) (bOr (bTru (eB (bIsi clNo) (aCons (eVar 3) (aCons (eW (.ty "bool")) (aNil))))) (bVal (eBin wLt2 (eVar 3) (eW (.int 0)))))) (sBad) (sNil)) (sSeq (sAsg (eTup (aCons (eVar 1) (aCons (eVar 2) (aCons (eVar 3) (aNil))))) (gTp [gAttr (okF [0]) 0 (eVar 0), gAttr (okF [0]) 1 (eVar 0), gAttr (okF [0]) 2 (eVar 0)])) (sSeq (sAsg (eW .non) (gAttr (okF [0]) 3 (eVar 0))) (sSeq (sAsg (eW .non) (gAttr (okF [0]) 4 (eVar 0))) (sAsg (eW (.bl false)) (gAttr (okF [0]) 5 (eVar 0))))))))
@[irreducible] def F_Fault___init__ : List W → Ev.Heap → R := fnOf 4 4 s_Fault___init__
def s_Fault_kind : SS := sRet (eAttr (atF [0]) 0 (eVar 0))
@[irreducible] def F_Fault_kind : List W → Ev.Heap → R := fnOf 1 1 s_Fault_kind
def s_Fault_label : SS := sRet (eAttr (atF [0]) 1 (eVar 0))
@[irreducible] def F_Fault_label : List W → Ev.Heap → R := fnOf 1 1 s_Fault_label
def s_Fault_number : SS := sRet (eAttr (atF [0]) 2 (eVar 0))
@[irreducible] def F_Fault_number : List W → Ev.Heap → R := fnOf 1 1 s_Fault_number
def s_Fault_context : SS := sRet (eAttr (atF [0]) 3 (eVar 0))
@[irreducible] def F_Fault_context : List W → Ev.Heap → R := fnOf 1 1 s_Fault_context
def s_Fault_cause : SS := sRet (eAttr (atF [0]) 4 (eVar 0))
@[irreducible] def F_Fault_cause : List W → Ev.Heap → R := fnOf 1 1 s_Fault_cause
def s_Fault_hides : SS := sRet (eAttr (atF [0]) 5 (eVar 0))
@[irreducible] def F_Fault_hides : List W → Ev.Heap → R := fnOf 1 1 s_Fault_hides
def s_need_fault : SS := sIf (bNot (bTru (eIsi (isiA 0) (eVar 0)))) (sBad) (sNil)
@[irreducible] def F_need_fault : List W → Ev.Heap → R := fnOf 1 1 s_need_fault
def s_need_fault_or_none : SS := sIf (bVal (eBin wIsnt (eVar 0) (eW .non))) (sExpr (eCall (fun xs ys h => F_need_fault (pick [(false, 0)] xs ys) h) 1 0 (aCons (eVar 0) (aNil)) (aNil))) (sNil)
@[irreducible] def F_need_fault_or_none : List W → Ev.Heap → R := fnOf 1 1 s_need_fault_or_none
def s_raise_under : SS := sSeq (sExpr (eCall (fun xs ys h => F_need_fault (pick [(false, 0)] xs ys) h) 1 0 (aCons (eVar 0) (aNil)) (aNil))) (sSeq (sExpr (eCall (fun xs ys h => F_need_fault_or_none (pick [(false, 0)] xs ys) h) 1 0 (aCons (eVar 1) (aNil)) (aNil))) (sSeq (sIf (bOr (bVal (eBin wIs (eVar 1) (eW .non))) (bVal (eBin (wEqI idF) (eVar 1) (eVar 0)))) (sRetN) (sNil)) (sSeq (sAsg (eVar 1) (gNm 2)) (sSeq (whileL (bAnd (bVal (eBin wIsnt (eAttr (atF [0]) 3 (eVar 2)) (eW .non))) (bVal (eBin (wNeI idF) (eAttr (atF [0]) 3 (eVar 2)) (eVar 0)))) (sAsg (eAttr (atF [0]) 3 (eVar 2)) (gNm 2)) 100000) (sSeq (sAsg (eW .non) (gAttr (okF [0]) 3 (eVar 2))) (sAsg (eVar 1) (gAttr (okF [0]) 3 (eVar 0))))))))
@[irreducible] def F_raise_under : List W → Ev.Heap → R := fnOf 2 3 s_raise_under
def s_with_cause : SS := sSeq (sExpr (eCall (fun xs ys h => F_need_fault (pick [(false, 0)] xs ys) h) 1 0 (aCons (eVar 0) (aNil)) (aNil))) (sSeq (sExpr (eCall (fun xs ys h => F_need_fault_or_none (pick [(false, 0)] xs ys) h) 1 0 (aCons (eVar 1) (aNil)) (aNil))) (sSeq (sAsg (eVar 1) (gAttr (okF [0]) 4 (eVar 0))) (sAsg (eW (.bl true)) (gAttr (okF [0]) 5 (eVar 0)))))
@[irreducible] def F_with_cause : List W → Ev.Heap → R := fnOf 2 2 s_with_cause
def s_number_of : SS := sRet (eIf (bVal (eBin wIs (eVar 0) (eW .non))) (eW .non) (eAttr (atP 0 F_Fault_number) 8 (eVar 0)))
@[irreducible] def F_number_of : List W → Ev.Heap → R := fnOf 1 1 s_number_of
def s_rows_of_1 : SS := sFor (.one 3) (iSeq (eTup (aCons (eAttr (atF [0]) 4 (eBin wIx (eVar 1) (eVar 2))) (aCons (eAttr (atF [0]) 3 (eBin wIx (eVar 1) (eVar 2))) (aNil))))) (sIf (bAnd (bVal (eBin wIsnt (eVar 3) (eW .non))) (bVal (eBin (wNinI idF) (eVar 3) (eVar 1)))) (sExpr (eBm "list" mAppend (eVar 1) (aCons (eVar 3) (aNil)))) (sNil))
def s_rows_of_2 : SS := sAug 2 wIadd (eW (.int 1))
def s_rows_of_3 : SS := sExpr (eCall (fun xs ys h => F_need_fault (pick [(false, 0)] xs ys) h) 1 0 (aCons (eVar 0) (aNil)) (aNil))
def s_rows_of_4 : SS := sAsg (eLst (aCons (eVar 0) (aNil))) (gNm 1)
def s_rows_of_5 : SS := sAsg (eW (.int 0)) (gNm 2)
def s_rows_of_6 : SS := whileL (bVal (eBin wLt2 (eVar 2) (eB bLen (aCons (eVar 1) (aNil))))) (sSeq (s_rows_of_1) (s_rows_of_2)) 100000
def s_rows_of_7 : SS := sRet (eComp [4] (.one 4) (iSeq (eVar 1)) (bYes) (eTup (aCons (eAttr (atP 0 F_Fault_number) 8 (eVar 4)) (aCons (eAttr (atP 0 F_Fault_kind) 6 (eVar 4)) (aCons (eAttr (atP 0 F_Fault_label) 7 (eVar 4)) (aCons (eCall (fun xs ys h => F_number_of (pick [(false, 0)] xs ys) h) 1 0 (aCons (eAttr (atP 0 F_Fault_context) 9 (eVar 4)) (aNil)) (aNil)) (aCons (eCall (fun xs ys h => F_number_of (pick [(false, 0)] xs ys) h) 1 0 (aCons (eAttr (atP 0 F_Fault_cause) 10 (eVar 4)) (aNil)) (aNil)) (aCons (eAttr (atP 0 F_Fault_hides) 11 (eVar 4)) (aNil)))))))))
def s_rows_of : SS := sSeq (s_rows_of_3) (sSeq (s_rows_of_4) (sSeq (s_rows_of_5) (sSeq (s_rows_of_6) (s_rows_of_7))))
@[irreducible] def F_rows_of : List W → Ev.Heap → R := fnOf 1 5 s_rows_of
end EvF
set_option maxRecDepth 100000
/-! EvTxt: texts: their methods, numbers as texts; stars in displays; lists turned round. -/
namespace Ev
open PySem L2 PySem.Spec PyProof.Rows
def mStarts : W → List W → Heap → R
  | .str a, [.str b], h => .ok (.bl (Txt.startswith a b)) h
  | _, _, _ => .bad
def mEnds : W → List W → Heap → R
  | .str a, [.str b], h => .ok (.bl (Txt.endswith a b)) h
  | _, _, _ => .bad
def mPart : W → List W → Heap → R
  | .str a, [.str b], h => if (b.length == 0) = false ∧ a.length ≤ sizeLine then .ok (.tup [.str (Txt.partition a b).1, .str (Txt.partition a b).2.1, .str (Txt.partition a b).2.2]) h else .bad
  | _, _, _ => .bad
/-- what rpartition gives -/
def rpart (a b : Str) : Str × Str × Str := match Builtin.Str.lastOccurrence a b 0 a.length with
  | some i => (Builtin.Str.strSub a 0 i, b, Builtin.Str.strSub a (i + b.length) a.length)
  | none => (Str.empty, Str.empty, a)
def mRpart : W → List W → Heap → R
  | .str a, [.str b], h => if (b.length == 0) = false ∧ a.length ≤ sizeLine then .ok (.tup [.str (rpart a b).1, .str (rpart a b).2.1, .str (rpart a b).2.2]) h else .bad
  | _, _, _ => .bad
def mSplit : W → List W → Heap → R
  | .str a, [.str b], h => if (b.length == 0) = false ∧ a.length + 2 ≤ sizeLine then .ok (.ref h.nx) (h.new (.lst ((Txt.split a b).map W.str))) else .bad
  | _, _, _ => .bad
def mInsert : W → List W → Heap → R
  | .ref n, [.int i, w], h => match h.get n with
    | some (.lst xs) => if xs.length < sizeLine ∧ 0 ≤ i ∧ i < 2 ^ 63 then .ok .non (h.put n (.lst (xs.take i.toNat ++ [w] ++ xs.drop i.toNat))) else .bad
    | _ => .bad
  | _, _, _ => .bad
/-- int(..) -/
def bInt : List W → Heap → R
  | [.int i], h => .ok (.int i) h
  | [.bl b], h => .ok (.int (if b then 1 else 0)) h
  | [.str s], h => match PySem.intText? s with
    | some n => if s.length ≤ 640 then .ok (.int n) h else .bad
    | none => .bad
  | _, _ => .bad
/-- str(..) of an int -/
def bStr : List W → Heap → R
  | [.int i], h => if i.natAbs.log2 < 1920 then .ok (.str (toString i)) h else .bad
  | _, _ => .bad
section
variable {X : Cx} {N : Nm}
theorem two_strs {K : PySem.W.Frag} {ρ : List Addr} {H : Hp} {a b : Str} {v : V} {vs : List V} (r : VR K ρ H (.str a) v) (rs : VRs K ρ H [.str b] vs) : v = .str a ∧ vs = [.str b] := by
  cases r
  cases rs with
  | cons q r2 => cases q; cases r2; exact ⟨rfl, rfl⟩
theorem okm_starts : BmOk X N "str.startswith" mStarts := by
  refine ⟨_, mt_startswith, fun ρ h H w ws v vs Q E hr r rs o => ?_⟩
  unfold mStarts at o
  split at o
  · obtain ⟨rfl, rfl⟩ := two_strs r rs
    exact ⟨_, _, rfl, rfl, o.val hr (.bl _)⟩
  · exact o.elim
theorem okm_ends : BmOk X N "str.endswith" mEnds := by
  refine ⟨_, mt_endswith, fun ρ h H w ws v vs Q E hr r rs o => ?_⟩
  unfold mEnds at o
  split at o
  · obtain ⟨rfl, rfl⟩ := two_strs r rs
    exact ⟨_, _, rfl, rfl, o.val hr (.bl _)⟩
  · exact o.elim
/-- three texts as a new tuple -/
theorem out3 {K : PySem.W.Frag} {N : Nm} {ρ : List Addr} {h : Heap} {H : Hp} {x y z : Str} {Q : VK} {E : XK} {p : Addr} (hr : HR K N ρ h H) (o : Out K N ρ H (.ok (.tup [.str x, .str y, .str z]) h) Q E) (hn : H p = none) : Q (.ref p) (upd H p (.tup [.str x, .str y, .str z])) :=
  o ρ _ _ (Ex.other hn) (hr.other hn) (.tup (.inl (.inl upd_same)) (.cons (.str _) (.cons (.str _) (.cons (.str _) .nil))))
theorem okm_part : BmOk X N "str.partition" mPart := by
  refine ⟨_, mt_partition, fun ρ h H w ws v vs Q E hr r rs o => ?_⟩
  unfold mPart at o
  split at o
  · obtain ⟨rfl, rfl⟩ := two_strs r rs
    split at o
    · rename_i c
      exact ⟨_, _, rfl, rfl, c.1, c.2, fun p hn => out3 hr o hn⟩
    · exact o.elim
  · exact o.elim
def rRpart : V → List V → Hp → VK → Prop := fun x xs H Q => ∃ a b, x = .str a ∧ xs = [.str b] ∧ ((b.length == 0) = false ∧ a.length ≤ sizeLine) ∧ ∀ p, H p = none → Q (.ref p) (upd H p (.tup [.str (rpart a b).1, .str (rpart a b).2.1, .str (rpart a b).2.2]))
theorem mt_rpart : MtR X "str.rpartition" rRpart := by
  intro pins s σ H x xs v us Q I r1 r2 ⟨a, b, e1, e2, ⟨c1, c2⟩, q⟩
  subst e1 e2
  obtain ⟨t, rfl⟩ := r1
  cases r2 with
  | cons q1 q2 =>
    cases q2
    obtain ⟨u, rfl⟩ := q1
    have m := meets_str_rpartition a b t u c1 c2
    refine call_meets F.slot_str_rpartition (typeIs_str _ _ _) F.entry_str_rpartition (F.args_str_rpartition_2 _ _) m ?_
    unfold rpart at q
    revert q
    cases Builtin.Str.lastOccurrence a b 0 a.length <;> exact fun q => laid_parts I q
theorem okm_rpart : BmOk X N "str.rpartition" mRpart := by
  refine ⟨_, mt_rpart, fun ρ h H w ws v vs Q E hr r rs o => ?_⟩
  unfold mRpart at o
  split at o
  · obtain ⟨rfl, rfl⟩ := two_strs r rs
    split at o
    · rename_i c
      exact ⟨_, _, rfl, rfl, c, fun p hn => out3 hr o hn⟩
    · exact o.elim
  · exact o.elim
theorem vrs_strs {K : PySem.W.Frag} {ρ : List Addr} {H : Hp} : ∀ ys : List Str, VRs K ρ H (ys.map W.str) (ys.map V.str)
  | [] => .nil
  | y :: ys => .cons (.str y) (vrs_strs ys)
theorem okm_split : BmOk X N "str.split" mSplit := by
  refine ⟨_, mt_split, fun ρ h H w ws v vs Q E hr r rs o => ?_⟩
  unfold mSplit at o
  split at o
  · obtain ⟨rfl, rfl⟩ := two_strs r rs
    split at o
    · rename_i c
      exact ⟨_, _, rfl, rfl, c.1, c.2, fun p hn => o (ρ ++ [p]) _ _ (Ex.alloc hn) (hr.new hn (.lst (vrs_strs _))) (.ref (hr.at_new p))⟩
    · exact o.elim
  · exact o.elim
theorem okm_insert : BmOk X N "list.insert" mInsert := by
  refine ⟨_, mt_insert, fun ρ h H w ws v vs Q E hr r rs o => ?_⟩
  unfold mInsert at o
  split at o
  · cases r with
    | ref q =>
      cases rs with
      | cons r1 r2 => cases r2 with
        | cons r2 r3 =>
          cases r1
          cases r3
          split at o
          · rename_i xs e
            split at o
            · rename_i c
              obtain ⟨ys, h1, h2⟩ := lst_mut hr e q
              obtain ⟨w1, w2⟩ := hr.setL q h1 (((h2.take _).append (.cons r2 .nil)).append (h2.drop _))
              exact ⟨_, ys, _, _, rfl, rfl, h1, by rw [← h2.length]; exact c.1, c.2.1, c.2.2, o ρ _ _ (Ex.put q w2) w1 .non⟩
            · exact o.elim
          · exact o.elim
  · exact o.elim
theorem CalR_or {f : Value} {r r' : List V → Hp → VK → Prop} (a : CallR X f r) (b : CallR X f r') : CallR X f fun vs H Q => r vs H Q ∨ r' vs H Q := fun pins s σ H xs us Q I q h => h.elim (a pins s σ H xs us Q I q) (b pins s σ H xs us Q I q)
theorem okb_int : CalOk X N (.type "int") bInt := by
  refine ⟨_, CalR_or call_int1 call_int_str, fun ρ h H ws vs Q E hr r o => ?_⟩
  unfold bInt at o
  split at o
  · cases r with | cons q r => cases r; cases q; exact .inl (.inl ⟨_, rfl, o.val hr (.int _)⟩)
  · cases r with | cons q r => cases r; cases q; exact .inl (.inr ⟨_, rfl, o.val hr (.int _)⟩)
  · cases r with
    | cons q r =>
      cases r; cases q
      split at o
      · rename_i n e
        split at o
        · rename_i c
          exact .inr ⟨_, n, rfl, e, c, o.val hr (.int _)⟩
        · exact o.elim
      · exact o.elim
  · exact o.elim
theorem okb_str : CalOk X N (.type "str") bStr := by
  refine ⟨_, call_str_int, fun ρ h H ws vs Q E hr r o => ?_⟩
  unfold bStr at o
  split at o
  · cases r with
    | cons q r =>
      cases r; cases q
      split at o
      · rename_i c
        exact ⟨_, rfl, c, o.val hr (.str _)⟩
      · exact o.elim
  · exact o.elim
end
/-! ### xs[::-1], *xs in a display -/
def eRev (f : SE) : SE := fun ls h => (f ls h).bind fun x h1 => match seqW h1 x with
  | some xs => .ok (.ref h1.nx) (h1.new (.lst xs.reverse))
  | none => .bad
/-- the items of a tuple, a list -/
def itemsW (h : Heap) : W → Option (List W)
  | .tup xs => some xs
  | x => seqW h x
def aStar (f : SE) (g : SEs) : SEs := fun ls h => match f ls h with
  | .ok x h1 => match itemsW h1 x with
    | some xs => match g ls h1 with
      | .ok ys h2 => .ok (xs ++ ys) h2
      | .exc c fs h2 => .exc c fs h2
      | .bad => .bad
    | none => .bad
  | .exc c fs h1 => .exc c fs h1
  | .bad => .bad
section
variable {X : Cx} {N : Nm} {Wx : WX} {pos p p1 p2 p3 : Pos} {e : PySem.Expr} {es : List PySem.Expr} {f : SE} {g : SEs} {k : Nat}
theorem r_rev (ha : PE X e (LE X.K N Wx f)) : PE X (.Subscript e (.Slice none none (some (.UnaryOp .USub (.Constant (.int 1) k p1) p2)) p3) pos) (LE X.K N Wx (eRev f)) := by
  refine PE.imp (pe_revL ha) fun σ H Q ⟨ρ, ls, hp, l, hr, o⟩ => ⟨ρ, ls, hp, l, hr, ?_⟩
  refine (Out.bind o).mono (fun v H1 ⟨ρ1, x, h1, e1, hr1, rx, o1⟩ => ?_) fun _ _ _ z => z
  split at o1
  · rename_i xs ex
    obtain ⟨a, ys, rfl, s1, s2⟩ := seqW_in hr1 ex rx
    refine ⟨a, ys, rfl, s1, fun q hn => ?_⟩
    exact o1 (ρ1 ++ [q]) _ _ (Ex.alloc hn) (hr1.new hn (.lst (s2.reverse.mono (List.prefix_append _ _) (HE.new hn)))) (.ref (hr1.at_new q))
  · exact o1.elim
theorem itemsW_in {K : PySem.W.Frag} {N : Nm} {ρ : List Addr} {h : Heap} {H : Hp} {w : W} {v : V} {xs : List W} (hr : HR K N ρ h H) (q : itemsW h w = some xs) (r : VR K ρ H w v) : ∃ a ys, v = .ref a ∧ (SqT K H a ys ∨ SqL K H a ys) ∧ VRs K ρ H xs ys := by
  cases r with
  | tup s r => cases q; exact ⟨_, _, rfl, .inl s, r⟩
  | fl s r => obtain ⟨a, ys, z, s1, s2⟩ := seqW_in (h := h) (xs := xs) hr (by exact q) (.fl s r); exact ⟨a, ys, z, .inr s1, s2⟩
  | ref s => obtain ⟨a, ys, z, s1, s2⟩ := seqW_in (h := h) (xs := xs) hr (by exact q) (.ref s); exact ⟨a, ys, z, .inr s1, s2⟩
  | _ => cases q
theorem ra_star (ha : PE X e (LE X.K N Wx f)) (hr : PA X es (LA X.K N Wx g)) (hs : starEach (.Starred e p :: es) X.env = (true, eval e X.env) :: starEach es X.env := by rfl) : PA X (.Starred e p :: es) (LA X.K N Wx (aStar f g)) := by
  refine PA.imp (StX.pa_star ha hr hs) fun σ H Q ⟨ρ, ls, hp, l, hr, o⟩ => ⟨ρ, ls, hp, l, hr, ?_⟩
  unfold aStar at o
  cases e1 : f ls hp with
  | exc c fs h1 => rw [e1] at o; exact o
  | bad => rw [e1] at o; exact o.elim
  | ok x h1 =>
    rw [e1] at o
    simp only at o
    cases e2 : itemsW h1 x with
    | none => rw [e2] at o; exact o.elim
    | some xs =>
      rw [e2] at o
      intro ρ' H' v ex r rx
      obtain ⟨a, ys, rfl, s1, s2⟩ := itemsW_in r e2 rx
      refine ⟨a, ys, rfl, s1, ρ', ls, h1, l.ex ex, r, ?_⟩
      simp only at o
      cases e3 : g ls h1 with
      | ok zs h2 =>
        rw [e3] at o
        exact fun ρ2 H2 us ex2 r2 rz => o ρ2 H2 _ (ex.trans ex2) r2 ((s2.ex ex2).append rz)
      | exc c fs h2 =>
        rw [e3] at o
        exact fun ρ2 H2 d ex2 r2 rz => o ρ2 H2 d (ex.trans ex2) r2 rz
      | bad => rw [e3] at o; exact o.elim
end
/-! ### what must hold -/
section
variable {ls : Ls} {h : Heap} {Q : W → Heap → Prop} {E : Nat → List (Nat × W) → Heap → Prop} {a b : Str}
@[simp] theorem o_starts : (mStarts (.str a) [.str b] h).to Q E ↔ Q (.bl (Txt.startswith a b)) h := Iff.rfl
@[simp] theorem o_ends : (mEnds (.str a) [.str b] h).to Q E ↔ Q (.bl (Txt.endswith a b)) h := Iff.rfl
@[simp] theorem o_part : (mPart (.str a) [.str b] h).to Q E ↔ ((b.length == 0) = false ∧ a.length ≤ sizeLine) ∧ Q (.tup [.str (Txt.partition a b).1, .str (Txt.partition a b).2.1, .str (Txt.partition a b).2.2]) h := by unfold mPart; rw [to_ifb]; rfl
@[simp] theorem o_rpart : (mRpart (.str a) [.str b] h).to Q E ↔ ((b.length == 0) = false ∧ a.length ≤ sizeLine) ∧ Q (.tup [.str (rpart a b).1, .str (rpart a b).2.1, .str (rpart a b).2.2]) h := by unfold mRpart; rw [to_ifb]; rfl
@[simp] theorem o_split : (mSplit (.str a) [.str b] h).to Q E ↔ ((b.length == 0) = false ∧ a.length + 2 ≤ sizeLine) ∧ Q (.ref h.nx) (h.new (.lst ((Txt.split a b).map W.str))) := by unfold mSplit; rw [to_ifb]; rfl
@[simp] theorem o_insert {n : Nat} {i : Int} {w : W} : (mInsert (.ref n) [.int i, w] h).to Q E ↔ ∃ xs, h.get n = some (.lst xs) ∧ (xs.length < sizeLine ∧ 0 ≤ i ∧ i < 2 ^ 63) ∧ Q .non (h.put n (.lst (xs.take i.toNat ++ [w] ++ xs.drop i.toNat))) := by
  show R.to (match h.get n with
    | some (.lst xs) => if xs.length < sizeLine ∧ 0 ≤ i ∧ i < 2 ^ 63 then .ok .non (h.put n (.lst (xs.take i.toNat ++ [w] ++ xs.drop i.toNat))) else .bad
    | _ => .bad) Q E ↔ _
  split
  · rename_i xs e
    rw [to_ifb]
    exact ⟨fun ⟨z, q⟩ => ⟨xs, e, z, q⟩, fun ⟨ys, e', z, q⟩ => by rw [e] at e'; cases e'; exact ⟨z, q⟩⟩
  · rename_i n1
    exact ⟨False.elim, fun ⟨xs, e, _⟩ => (n1 xs e).elim⟩
@[simp] theorem o_int_i {i : Int} : (bInt [.int i] h).to Q E ↔ Q (.int i) h := Iff.rfl
@[simp] theorem o_int_b {c : Bool} : (bInt [.bl c] h).to Q E ↔ Q (.int (if c then 1 else 0)) h := Iff.rfl
@[simp] theorem o_int_s : (bInt [.str a] h).to Q E ↔ ∃ n, PySem.intText? a = some n ∧ a.length ≤ 640 ∧ Q (.int n) h := by
  show R.to (match PySem.intText? a with
    | some n => if a.length ≤ 640 then .ok (.int n) h else .bad
    | none => .bad) Q E ↔ _
  cases PySem.intText? a with
  | none => simp
  | some n => simp only [Option.some.injEq, exists_eq_left']; rw [to_ifb]; rfl
@[simp] theorem o_strI {i : Int} : (bStr [.int i] h).to Q E ↔ i.natAbs.log2 < 1920 ∧ Q (.str (toString i)) h := by unfold bStr; rw [to_ifb]; rfl
@[simp] theorem x_rev {f : SE} : (eRev f ls h).to Q E ↔ (f ls h).to (fun x h1 => ∃ xs, seqW h1 x = some xs ∧ Q (.ref h1.nx) (h1.new (.lst xs.reverse))) E := by
  unfold eRev
  rw [to_bind]
  cases f ls h with
  | ok x h1 =>
    show R.to (match seqW h1 x with | some xs => _ | none => .bad) Q E ↔ ∃ xs, seqW h1 x = some xs ∧ _
    cases seqW h1 x <;> simp
  | exc => rfl
  | bad => rfl
@[simp] theorem xs_star {f : SE} {g : SEs} {Q : List W → Heap → Prop} : (aStar f g ls h).to Q E ↔ (f ls h).to (fun x h1 => ∃ xs, itemsW h1 x = some xs ∧ (g ls h1).to (fun ys h2 => Q (xs ++ ys) h2) E) E := by
  unfold aStar
  cases f ls h with
  | ok x h1 =>
    simp only [to_ok]
    cases itemsW h1 x with
    | none => simp
    | some xs =>
      simp only [Option.some.injEq, exists_eq_left']
      cases g ls h1 <;> rfl
  | exc => rfl
  | bad => rfl
@[simp] theorem itemsW_tup {xs : List W} : itemsW h (.tup xs) = some xs := rfl
@[simp] theorem x_sl {f : SE} {lo hi : SO} : (eSl f lo hi ls h).to Q E ↔ (f ls h).to (fun x h1 => match lo ls h1 with
    | some (l, h2) => match hi ls h2 with
      | some (u, h3) => (wSl x l u h3).to Q E
      | none => False
    | none => False) E := by
  unfold eSl
  rw [to_bind]
  cases f ls h with
  | ok x h1 =>
    simp only [to_ok]
    cases lo ls h1 with
    | none => rfl
    | some p =>
      obtain ⟨l, h2⟩ := p
      simp only
      cases hi ls h2 <;> rfl
  | exc => rfl
  | bad => rfl
@[simp] theorem oNone_eq : oNone ls h = some (none, h) := rfl
@[simp] theorem oSome_int {i : Int} : oSome (eW (.int i)) ls h = some (some i, h) := rfl
@[simp] theorem oSome_neg {i : Int} : oSome (eUn wNeg (eW (.int i))) ls h = some (some (-i), h) := rfl
theorem oSome_of {f : SE} {i : Int} {h1 : Heap} (e : f ls h = .ok (.int i) h1) : oSome f ls h = some (some i, h1) := by simp [oSome, e]
@[simp] theorem o_sl_s {l u : Option Int} : (wSl (.str a) l u h).to Q E ↔ a.length ≤ sizeLine ∧ Q (.str (cutS a l u)) h := by unfold wSl; rw [to_ifb]; rfl
@[simp] theorem o_sl_tup {xs : List W} {l u : Option Int} : (wSl (.tup xs) l u h).to Q E ↔ Q (.tup (wCut xs l u)) h := Iff.rfl
@[simp] theorem o_sl_ref {n : Nat} {l u : Option Int} : (wSl (.ref n) l u h).to Q E ↔ ∃ xs, h.get n = some (.lst xs) ∧ Q (.ref h.nx) (h.new (.lst (wCut xs l u))) := by
  simp only [← lstAt_iff]
  show R.to (match lstAt h n with | some xs => .ok (.ref h.nx) (h.new (.lst (wCut xs l u))) | none => .bad) Q E ↔ _
  cases lstAt h n <;> simp
theorem strsOf_map : ∀ ys : List Str, strsOf (ys.map W.str) = some ys
  | [] => rfl
  | y :: ys => by simp [strsOf, strsOf_map ys]
theorem join_to {k : Nat} {ys : List Str} (e : h.get k = some (.lst (ys.map W.str))) (hz : (ys.map (·.length)).sum + ys.length * a.length ≤ 16777216) (q : Q (.str (Txt.join a ys)) h) : (mJoin (.str a) [.ref k] h).to Q E := by
  have e1 : seqW h (.ref k) = some (ys.map W.str) := seqW_ref.mpr e
  have : mJoin (.str a) [.ref k] h = .ok (.str (Txt.join a ys)) h := by
    simp only [mJoin, e1, Option.bind_some, strsOf_map]
    rw [if_pos hz]
  rw [this]; exact q
theorem sum_le {B : Nat} : ∀ l : List Str, (∀ s ∈ l, s.length ≤ B) → (l.map (·.length)).sum ≤ l.length * B
  | [], _ => by simp
  | a :: l, h => by
    have h1 := sum_le l fun s m => h s (List.mem_cons_of_mem _ m)
    have h2 := h a (by simp)
    simp only [List.map_cons, List.sum_cons, List.length_cons, Nat.add_mul]
    omega
end
end Ev
set_option maxRecDepth 100000
/-! EvTab: dicts of the module whose keys and values are texts. -/
namespace Ev
open PySem L2 PySem.Spec PyProof.Rows
def strV : Value → Option Str
  | .str x _ => some x
  | _ => none
/-- at a: the written dict with these keys and values, in this order -/
structure TabOk (K : PySem.W.Frag) (w : World) (a : Addr) (tab : List (Str × Str)) : Prop where
  ex : ∃ es n, KDict K w a es n ∧ es.toList.map (fun e => (strV e.key, strV e.val)) = tab.map fun p => (some p.1, some p.2)
theorem strV_of {v : Value} {x : Str} (e : strV v = some x) : ∃ t, v = .str x t := by
  cases v with
  | str y t => cases e; exact ⟨t, rfl⟩
  | _ => cases e
theorem find_tab (z : Str) : ∀ {l : List DictEntry} {tab : List (Str × Str)}, l.map (fun e => (strV e.key, strV e.val)) = tab.map (fun p => (some p.1, some p.2)) →
    l.any (·.refKey) = false ∧ ((l.find? (·.key.isStr z) = none ∧ tab.find? (fun p => p.1 == z) = none) ∨ ∃ e p t, l.find? (·.key.isStr z) = some e ∧ tab.find? (fun p => p.1 == z) = some p ∧ e.val = .str p.2 t)
  | [], [], _ => ⟨rfl, .inl ⟨rfl, rfl⟩⟩
  | [], _ :: _, h => by cases h
  | _ :: _, [], h => by cases h
  | e :: l, p :: tab, h => by
    simp only [List.map_cons, List.cons.injEq, Prod.mk.injEq] at h
    obtain ⟨⟨h1, h2⟩, h3⟩ := h
    obtain ⟨t, ek⟩ := strV_of h1
    obtain ⟨u, ev⟩ := strV_of h2
    obtain ⟨n1, n2⟩ := find_tab z h3
    refine ⟨by rw [List.any_cons, n1]; simp [DictEntry.refKey, ek], ?_⟩
    have hs : e.key.isStr z = (p.1 == z) := by rw [ek]; rfl
    rw [List.find?_cons, List.find?_cons, hs]
    cases p.1 == z with
    | true => exact .inr ⟨e, p, u, rfl, rfl, ev⟩
    | false => exact n2
def tabGet (tab : List (Str × Str)) (z : Str) : W := match tab.find? (fun p => p.1 == z) with
  | some p => .str p.2
  | none => .non
def eTabGet (tab : List (Str × Str)) (f : SE) : SE := fun ls h => (f ls h).bind fun x h1 => match x with
  | .str z => .ok (tabGet tab z) h1
  | _ => .bad
def eTabIx (tab : List (Str × Str)) (f : SE) : SE := fun ls h => (f ls h).bind fun x h1 => match x with
  | .str z => match tab.find? (fun p => p.1 == z) with
    | some p => .ok (.str p.2) h1
    | none => .bad
  | _ => .bad
section
variable {X : Cx} {N : Nm} {Wx : WX} {pos apos p1 : Pos} {e : PySem.Expr} {f : SE} {x : Str} {a : Addr} {tab : List (Str × Str)}
theorem TabOk.found (D : TabOk X.K X.w a tab) (z : Str) : ∃ es n, KDict X.K X.w a es n ∧ ∃ r, findBy Value.isStrOf es z = r ∧ ((tabGet tab z = .non ∧ r = none) ∨ ∃ v t, tabGet tab z = .str v ∧ r = some (.str v t)) := by
  obtain ⟨es, n, kd, em⟩ := D.ex
  obtain ⟨c1, c2⟩ := find_tab z em
  refine ⟨es, n, kd, _, rfl, ?_⟩
  have ns : PySem.W.nsIn X.K a z = some ((es.toList.find? (·.key.isStr z)).map (·.val)) := by
    unfold PySem.W.nsIn
    rw [kd.at_]
    simp only
    cases q : es.toList.find? (·.key.isStr z) with
    | some e => rfl
    | none => rw [c1]; rfl
  rw [PySem.W.find_K kd.at_ ns]
  unfold tabGet
  rcases c2 with ⟨q1, q2⟩ | ⟨e, p, t, q1, q2, q3⟩
  · rw [q1, q2]; exact .inl ⟨rfl, rfl⟩
  · rw [q1, q2]; exact .inr ⟨p.2, t, rfl, by simp [q3]⟩
theorem r_tabget (D : TabOk X.K X.w a tab) (hm : X.mg x = some (.ref a)) (he : PE X e (LE X.K N Wx f)) (hg : Gl X x := by rfl) (hdb : (x == ("__debug__" : Str)) = false := by decide)
    (hbase : attributeBase (.Name x p1) "get" X.env (eval (.Name x p1) X.env) = eval (.Name x p1) X.env := by rfl)
    (hfew : ((backTo pos (starEach [e] X.env)).all (fun y => !y.1) && (backToKw pos (keywordEach [] X.env)).all (fun y => y.1.isSome) && decide (([e] : List PySem.Expr).length + ([] : List Keyword).length + (if ([] : List Keyword).isEmpty then 0 else 1) < 30)) = true := by rfl)
    (hline : (apos.endLine == pos.line) = true := by rfl) (hst : starEach [e] X.env = (false, eval e X.env) :: starEach [] X.env := by rfl) (hpl : (backTo pos (starEach [] X.env)).any (·.1) = false := by rfl) :
    PE X (.Call (.Attribute (.Name x p1) "get" apos) [e] [] pos) (LE X.K N Wx (eTabGet tab f)) := by
  refine ⟨fun pins s σ H Q I ⟨ρ, ls, hp, l, hr, o⟩ => ?_⟩
  obtain ⟨es, n, kd, em⟩ := D.ex
  refine wpAny_Call_method_late hbase hfew hline rfl (ld_glob I hg hm ?_ hdb)
  refine ⟨"dict", "dict.get", F.plainAttrs_dict, F.slot_dict_get, F.type_dict_get, kd_type kd I, fun b eb => by cases eb; exact ⟨_, I.kIn _ _ kd.at_, rfl⟩, ?_⟩
  have ha := (ra_cons (N := N) (Wx := Wx) he ra_nil hst).run pos pins s σ H (fun vs H1 => ∃ u, vs = [u] ∧ ∃ ρ1 w h1, Ex ρ ρ1 H H1 ∧ HR X.K N ρ1 h1 H1 ∧ VR X.K ρ1 H1 w u ∧ Out X.K N ρ1 H1 (match w with | .str z => .ok (tabGet tab z) h1 | _ => .bad) Q (fun c d H' => Wx c d σ H')) I ?_
  · rw [hst] at ha ⊢
    refine Calls.callWith_builtin (by show (false || (backTo pos (starEach [] X.env)).any (·.1)) = false; rw [hpl]; rfl) (Calls.evalArgs_plain ?_)
    refine thn ha fun us s2 ⟨vs, H2, I2, r2, u, eu, ρ1, w, h1, ex1, hr1, rx, o1⟩ => ?_
    subst eu
    cases r2 with
    | cons q1 q2 =>
      cases q2
      cases rx with
      | str z =>
        obtain ⟨t, rfl⟩ := q1
        obtain ⟨es', n', kd', r, er, cs⟩ := D.found z
        have hmp := PySem.W.mapOf_K (prog := X.prog) (w := X.w) I2.kIn kd'.at_ kd'.lit
        refine call_meetsIn F.slot_dict_get hmp.typeIs F.entry_dict_get (F.args_dict_get_2 _ _) (meets_dict_get (PySem.strKind X.prog X.w) a (PySem.strKind_is X.prog X.w z t) kd'.low) ⟨_, hmp, ?_⟩
        rw [er]
        rcases cs with ⟨c1, rfl⟩ | ⟨v, t2, c1, rfl⟩
        · simp only [c1] at o1
          exact ⟨.non, H2, I2.tok _, rfl, o1 ρ1 H2 _ (Ex.refl _ _) hr1 .non⟩
        · simp only [c1] at o1
          exact ⟨.str v, H2, I2.tok _, ⟨t2, rfl⟩, o1 ρ1 H2 _ (Ex.refl _ _) hr1 (.str _)⟩
      | _ => exact o1.elim
  · refine ⟨ρ, ls, hp, l, hr, ?_⟩
    have ob := Out.bind o
    unfold aCons
    cases ef : f ls hp with
    | ok w h1 =>
      rw [ef] at ob
      intro ρ' H' us ex r rx
      cases rx with
      | cons q1 q2 =>
        cases q2
        exact ⟨_, rfl, ob ρ' H' _ ex r q1⟩
    | exc c fs h1 => rw [ef] at ob; exact ob
    | bad => rw [ef] at ob; exact ob.elim
end
/-! ### the hook with tables -/
def tabE (K : PySem.W.Frag) (a : Addr) : Option (List (Option Str × Int × Option Str)) := match K.lookup a with
  | some ⟨.type c, none, .dict es _, sl⟩ => if c = "dict" ∧ sl.isEmpty = true ∧ (a == sysModules) = false then some (es.toList.map fun e => (strV e.key, e.hash, strV e.val)) else none
  | _ => none
abbrev TabW : Type := Str × List (Str × Str)
def tabVal (w : World) (t : TabW) : Option (List (Option Str × Int × Option Str)) := some (t.2.map fun p => (some p.1, PyData.keyHash w.params p.1, some p.2))
theorem lit_of {P : Params} : ∀ {l : List DictEntry} {tab : List (Str × Str)}, l.map (fun e => (strV e.key, e.hash, strV e.val)) = tab.map (fun p => (some p.1, PyData.keyHash P p.1, some p.2)) →
    PySem.W.KeysLit P l ∧ l.map (fun e => (strV e.key, strV e.val)) = tab.map fun p => (some p.1, some p.2)
  | [], [], _ => ⟨True.intro, rfl⟩
  | [], _ :: _, h => by cases h
  | _ :: _, [], h => by cases h
  | e :: l, p :: tab, h => by
    simp only [List.map_cons, List.cons.injEq, Prod.mk.injEq] at h
    obtain ⟨⟨h1, h2, h3⟩, h4⟩ := h
    obtain ⟨q1, q2⟩ := lit_of h4
    obtain ⟨t, ek⟩ := strV_of h1
    exact ⟨⟨⟨p.1, t, ek, h2⟩, q1⟩, by simp only [List.map_cons, h1, h3, q2]⟩
theorem tabE_ok {K : PySem.W.Frag} {w : World} {a : Addr} {t : TabW} (e : tabE K a = tabVal w t) : TabOk K w a t.2 := by
  unfold tabE tabVal at e
  split at e
  · rename_i c es n sl q
    split at e
    · rename_i z
      obtain ⟨rfl, z2, z3⟩ := z
      obtain ⟨q1, q2⟩ := lit_of (Option.some.inj e)
      have : sl = #[] := Array.isEmpty_iff.mp z2
      subst this
      exact ⟨es, n, ⟨q, q1, z3⟩, q2⟩
    · cases e
  · cases e
abbrev AlT : Type := AlE × List (Option (List (Option Str × Int × Option Str)))
def obsT (fc : List Fc) (fn : List DefE) (ts : List TabW) (K : PySem.W.Frag) : AlT := (obsC fc fn K, ts.map fun t => tabE K (He.ga K t.1))
def valT (fn : List DefE) (ts : List TabW) (w : World) : AlT := (valC fn, ts.map (tabVal w))
def obsTG (n : Nat) (fc : List Fc) (fn : List DefE) (ts : List TabW) (g : Addr → Option Obj) : AlT := obsT fc fn ts (He.frG g (cStatics :: He.asD g n))
def SaysT (fc : List Fc) (fn : List DefE) (ts : List TabW) (w : World) (K : PySem.W.Frag) : Prop := obsT fc fn ts K = valT fn ts w
def hookT (n : Nat) (fc : List Fc) (fn : List DefE) (ts : List TabW) : PySem.W.Hook where
  α := AlT
  obs := fun s => obsTG n fc fn ts s.heap.get?
  val := fun w => valT fn ts w
  says := fun w h => ∃ K : PySem.W.Frag, K.In h ∧ SaysT fc fn ts w K
  of := fun _ _ e => ⟨_, He.frG_in, e⟩
  keeps := fun _ _ _ ⟨K, hK, c⟩ k => ⟨K, PySem.W.Frag.In.keeps hK k, c⟩
theorem obsTG_eq {n : Nat} {fc : List Fc} {fn : List DefE} {ts : List TabW} {g : Addr → Option Obj} {s : Shared} (h : ∀ a, g a = s.heap.get? a) : obsTG n fc fn ts g = (hookT n fc fn ts).obs s := by
  have e : g = s.heap.get? := funext h
  rw [e]; rfl
section
variable {fc : List Fc} {fn : List DefE} {ts : List TabW} {w : World} {K : PySem.W.Frag}
theorem SaysT.c (s : SaysT fc fn ts w K) : SaysC fc fn K := congrArg (fun z : AlT => z.1) s
theorem SaysT.tab (s : SaysT fc fn ts w K) (i : Nat) {t : TabW} (h : ts[i]? = some t := by rfl) : TabOk K w (He.ga K t.1) t.2 := by
  have e : ts.map (fun t => tabE K (He.ga K t.1)) = ts.map (tabVal w) := congrArg (fun z : AlT => z.2) s
  have e2 : (ts.map fun t => tabE K (He.ga K t.1))[i]? = (ts.map (tabVal w))[i]? := by rw [e]
  rw [List.getElem?_map, List.getElem?_map, h] at e2
  exact tabE_ok (Option.some.inj e2)
end
/-! ### what must hold -/
section
variable {ls : Ls} {h : Heap} {Q : W → Heap → Prop} {E : Nat → List (Nat × W) → Heap → Prop} {tab : List (Str × Str)} {f : SE}
@[simp] theorem x_tabget : (eTabGet tab f ls h).to Q E ↔ (f ls h).to (fun x h1 => ∃ z, x = .str z ∧ Q (tabGet tab z) h1) E := by
  unfold eTabGet
  rw [to_bind]
  cases f ls h with
  | ok x h1 => cases x <;> simp
  | exc => rfl
  | bad => rfl
end
end Ev
set_option maxRecDepth 100000
/-! EvData: data that may be shown and compared. -/
namespace Ev
open PySem L2
open PyData (strOk)
theorem strOk_app {a b : Str} (x : strOk a = true) (y : strOk b = true) : strOk (a ++ b) = true := by
  unfold strOk at *
  show ((a.cps ++ b.cps).all fun c => decide (c < 1114112)) = true
  rw [Array.all_append, x, y]; rfl
theorem strOk_textFrom : ∀ (ts : List Str) (k : Nat) (acc : Str), strOk acc = true → (∀ t ∈ ts, strOk t = true) → strOk (textFrom k acc ts) = true
  | [], _, _, a, _ => a
  | t :: ts, k, acc, a, h => by
    refine strOk_textFrom ts (k + 1) _ (strOk_app (strOk_app a ?_) (h t (by simp))) fun u m => h u (List.mem_cons_of_mem _ m)
    by_cases z : k > 0
    · simp only [if_pos z]; decide +kernel
    · simp only [if_neg z]; decide +kernel
theorem strOk_join {s : Str} (hs : strOk s = true) : ∀ ts : List Str, (∀ t ∈ ts, strOk t = true) → strOk (Str.join s ts) = true
  | [], _ => by show strOk Str.empty = true; decide +kernel
  | [x], h => h x (by simp)
  | x :: y :: r, h => strOk_app (strOk_app (h x (by simp)) hs) (strOk_join hs (y :: r) fun u m => h u (List.mem_cons_of_mem _ m))
theorem strOk_list {ts : List Str} (h : ∀ t ∈ ts, strOk t = true) : strOk (listText ts) = true := strOk_app (strOk_textFrom ts 0 _ (by decide +kernel) h) (by decide +kernel)
theorem strOk_tuple {ts : List Str} (h : ∀ t ∈ ts, strOk t = true) : strOk (tupleText ts) = true := by
  refine strOk_app (strOk_app (by decide +kernel) (strOk_join (by decide +kernel) ts h)) ?_
  cases ts.length == 1 <;> decide +kernel
/-- data that may be shown and compared; its weight and depth bounded -/
structure DOk (w n : Nat) (d : PyData) : Prop where
  lay : d.canLay0 = true
  nod : d.hasDict = false
  sh : d.showable = true
  sho : d.intsShort 13 = true
  dep : d.depth ≤ n
  wei : d.weight ≤ w
  txt : strOk d.shown = true
theorem DOk.mono {w w' n n' : Nat} {d : PyData} (a : DOk w n d) (h1 : w ≤ w') (h2 : n ≤ n') : DOk w' n' d := { a with dep := Nat.le_trans a.dep h2, wei := Nat.le_trans a.wei h1 }
theorem DOk.none : DOk 0 0 .none := ⟨rfl, by simp [PyData.hasDict], by simp [PyData.showable], by simp [PyData.intsShort], by simp [PyData.depth], by simp [PyData.weight], by decide +kernel⟩
theorem DOk.bool (b : Bool) : DOk 0 0 (.bool b) := ⟨rfl, by simp [PyData.hasDict], by simp [PyData.showable], by simp [PyData.intsShort], by simp [PyData.depth], by simp [PyData.weight], by cases b <;> decide +kernel⟩
theorem strOk_ofString (s : String) : strOk (Str.ofString s) = true := by
  have e : (Str.ofString s).cps.toList = s.toList.map Char.toNat := cpsOfBytes_string s
  unfold strOk
  rw [← Array.all_toList, e, List.all_eq_true]
  intro c m
  obtain ⟨ch, _, rfl⟩ := List.mem_map.mp m
  have h : ch.toNat = ch.val.toNat := rfl
  rcases ch.valid with z | z <;> simp only [h, decide_eq_true_eq] <;> omega
theorem DOk.int {i : Int} (h : i.natAbs < 10 ^ 12) : DOk 40 0 (.int i) := by
  have l2 : i.natAbs.log2 < 40 := by
    by_cases z : i.natAbs = 0
    · rw [z]; decide
    · exact (Nat.log2_lt z).mpr (by have : (10 : Nat) ^ 12 < 2 ^ 40 := by decide
                                    omega)
  refine ⟨rfl, by simp [PyData.hasDict], by simp [PyData.showable]; omega, by simpa [PyData.intsShort] using PyData.shown_int_le h, by simp [PyData.depth], ?_, strOk_ofString _⟩
  simp only [PyData.weight]
  split <;> omega
theorem DOk.str {s : Str} (h1 : strOk s = true) (h2 : strOk (reprText s) = true) : DOk s.cps.size 0 (.str s) := ⟨by simpa [PyData.canLay0] using h1, by simp [PyData.hasDict], by simp [PyData.showable], by simp [PyData.intsShort], by simp [PyData.depth], by simp [PyData.weight], h2⟩
section
variable {w n : Nat}
theorem all_lay : ∀ {ds : List PyData}, (∀ d ∈ ds, DOk w n d) → PyData.canLayAll0 ds = true
  | [], _ => rfl
  | d :: ds, h => by simp only [PyData.canLayAll0, (h d (by simp)).lay, all_lay fun x m => h x (List.mem_cons_of_mem _ m), Bool.and_self]
theorem all_nod : ∀ {ds : List PyData}, (∀ d ∈ ds, DOk w n d) → PyData.hasDictAll ds = false
  | [], _ => by simp only [PyData.hasDictAll]
  | d :: ds, h => by simp only [PyData.hasDictAll, (h d (by simp)).nod, all_nod fun x m => h x (List.mem_cons_of_mem _ m), Bool.or_self]
theorem all_sh : ∀ {ds : List PyData}, (∀ d ∈ ds, DOk w n d) → PyData.showableAll ds = true
  | [], _ => by simp only [PyData.showableAll]
  | d :: ds, h => by simp only [PyData.showableAll, (h d (by simp)).sh, all_sh fun x m => h x (List.mem_cons_of_mem _ m), Bool.and_self]
theorem all_sho : ∀ {ds : List PyData}, (∀ d ∈ ds, DOk w n d) → PyData.intsShortAll 13 ds = true
  | [], _ => by simp only [PyData.intsShortAll]
  | d :: ds, h => by simp only [PyData.intsShortAll, (h d (by simp)).sho, all_sho fun x m => h x (List.mem_cons_of_mem _ m), Bool.and_self]
theorem all_dep : ∀ {ds : List PyData}, (∀ d ∈ ds, DOk w n d) → PyData.depthAll ds ≤ n
  | [], _ => by simp [PyData.depthAll]
  | d :: ds, h => by
    have h1 := (h d (by simp)).dep
    have h2 := all_dep fun x m => h x (List.mem_cons_of_mem _ m)
    simp only [PyData.depthAll]; omega
theorem all_wei : ∀ {ds : List PyData}, (∀ d ∈ ds, DOk w n d) → PyData.weightAll ds ≤ ds.length * (w + 1)
  | [], _ => by simp [PyData.weightAll]
  | d :: ds, h => by
    have h1 := (h d (by simp)).wei
    have h2 := all_wei fun x m => h x (List.mem_cons_of_mem _ m)
    simp only [PyData.weightAll, List.length_cons, Nat.add_mul]; omega
theorem all_txt : ∀ {ds : List PyData}, (∀ d ∈ ds, DOk w n d) → ∀ t ∈ PyData.shownAll ds, strOk t = true
  | [], _ => by simp [PyData.shownAll]
  | d :: ds, h => by
    intro t m
    simp only [PyData.shownAll, List.mem_cons] at m
    rcases m with rfl | m
    · exact (h d (by simp)).txt
    · exact all_txt (fun x m => h x (List.mem_cons_of_mem _ m)) t m
theorem DOk.tuple {ds : List PyData} (h : ∀ d ∈ ds, DOk w n d) : DOk (ds.length * (w + 1)) (n + 1) (.tuple ds) :=
  ⟨by simp only [PyData.canLay0, all_lay h], by simp only [PyData.hasDict, all_nod h], by simp only [PyData.showable, all_sh h], by simp only [PyData.intsShort, all_sho h], by simp only [PyData.depth]; have := all_dep h; omega, by simp only [PyData.weight]; exact all_wei h, by simp only [PyData.shown]; exact strOk_tuple (all_txt h)⟩
theorem DOk.list {ds : List PyData} (h : ∀ d ∈ ds, DOk w n d) : DOk (ds.length * (w + 1)) (n + 1) (.list ds) :=
  ⟨by simp only [PyData.canLay0, all_lay h], by simp only [PyData.hasDict, all_nod h], by simp only [PyData.showable, all_sh h], by simp only [PyData.intsShort, all_sho h], by simp only [PyData.depth]; have := all_dep h; omega, by simp only [PyData.weight]; exact all_wei h, by simp only [PyData.shown]; exact strOk_list (all_txt h)⟩
theorem DOk.fits {d : PyData} (a : DOk w n d) (hw : w ≤ 2 ^ 20) (hn : n ≤ 60) : d.shown.length ≤ sizeLine := by
  refine PyData.shown_fits_of_layable0 (B := 13) (by decide) (by decide) ?_ a.sho
  simp only [PyData.layable0, a.lay, Bool.true_and, Bool.and_eq_true, decide_eq_true_eq]
  have := a.dep
  have := a.wei
  exact ⟨by omega, by omega⟩
theorem DOk.shaped {d : PyData} (a : DOk w n d) (hn : n ≤ 60) : SeqAt.shaped d = true := by
  have := a.dep
  simp only [SeqAt.shaped, a.lay, Bool.true_and, decide_eq_true_eq]
  omega
end
section
variable {h : Heap} {Q : W → Heap → Prop} {E : Nat → List (Nat × W) → Heap → Prop} {w n : Nat}
/-- repr of a list or a tuple -/
theorem repr_to {v : W} {d : PyData} (hv : (∃ k, v = .ref k) ∨ (∃ xs, v = .tup xs) ∨ ∃ xs, v = .fl xs) (e : toD h 60 v = some d) (a : DOk w n d) (hw : w ≤ 2 ^ 20 := by decide) (hn : n ≤ 60 := by decide) (q : Q (.str d.shown) h) : (bRepr [v] h).to Q E := by
  have c : d.hasDict = false ∧ d.showable = true ∧ d.depth ≤ 60 ∧ d.shown.length ≤ sizeLine := ⟨a.nod, a.sh, Nat.le_trans a.dep hn, a.fits hw hn⟩
  have : bRepr [v] h = .ok (.str d.shown) h := by
    rcases hv with ⟨k, rfl⟩ | ⟨xs, rfl⟩ | ⟨xs, rfl⟩ <;> (simp only [bRepr, e]; rw [if_pos c])
  rw [this]; exact q
/-- two values with the same data are equal -/
theorem eqO_same {x y : W} {d : PyData} (e1 : toD h 60 x = some d) (e2 : toD h 60 y = some d) (a : DOk w n d) (hn : n ≤ 60 := by decide) : eqO h x y = some true := by
  have e : dataEq h x y = some true := by
    simp only [dataEq, e1, e2, a.shaped hn, Bool.and_self, if_true, SeqAt.eqv_refl d a.lay]
  unfold eqO
  split
  · rename_i xs ys h1 h2
    split
    · exact e
    · rename_i ne
      exfalso
      have l1 : ∀ {v : W} {zs : List W}, seqW h v = some zs → toD h 60 v = some d → ∃ ds, d = .list ds ∧ ds.length = zs.length := by
        intro v zs s t
        have al : ∀ (f : W → Option PyData) (zs : List W) (ds : List PyData), allO f zs = some ds → ds.length = zs.length := by
          intro f zs
          induction zs with
          | nil => intro ds z; simp [allO] at z; subst z; rfl
          | cons z zs ih =>
            intro ds q
            simp only [allO] at q
            split at q
            · rename_i d1 ds1 _ e2; cases q; simp [ih _ e2]
            · cases q
        cases v with
        | ref k =>
          simp only [seqW] at s
          simp only [toD, s] at t
          obtain ⟨ds, q1, q2⟩ := Option.map_eq_some_iff.mp t
          exact ⟨ds, q2.symm, al _ _ _ q1⟩
        | fl zs' =>
          simp only [seqW, Option.some.injEq] at s
          subst s
          simp only [toD] at t
          obtain ⟨ds, q1, q2⟩ := Option.map_eq_some_iff.mp t
          exact ⟨ds, q2.symm, al _ _ _ q1⟩
        | _ => simp [seqW] at s
      obtain ⟨d1, q1, q2⟩ := l1 h1 e1
      obtain ⟨d2, q3, q4⟩ := l1 h2 e2
      rw [q1] at q3
      cases q3
      exact ne (by omega)
  · exact e
theorem allO_map {f : W → Option PyData} {g : W → PyData} : ∀ {xs : List W}, (∀ x ∈ xs, f x = some (g x)) → allO f xs = some (xs.map g)
  | [], _ => rfl
  | x :: xs, h => by simp only [allO, h x (by simp), allO_map fun y m => h y (List.mem_cons_of_mem _ m), List.map_cons]
theorem toD_lst {k : Nat} {xs : List W} {g : W → PyData} {m : Nat} (e : h.get k = some (.lst xs)) (hx : ∀ x ∈ xs, toD h m x = some (g x)) : toD h (m + 1) (.ref k) = some (.list (xs.map g)) := by
  simp only [toD, lstAt_iff.mpr e, allO_map hx, Option.map_some]
end
end Ev
set_option maxRecDepth 100000
/-! EvFaults: the faults: made, read, linked, raised. -/
namespace EvF
open PySem L2 Ev
abbrev S := SX.S
/-! letters -/
def letterB (c : Nat) : Bool := (decide (97 ≤ c) && decide (c ≤ 122)) || (decide (65 ≤ c) && decide (c ≤ 90))
theorem lt1 (a b : Nat) : (([a] : List Nat) < [b]) ↔ a < b := by simp [List.cons_lt_cons_iff]
theorem le1 (a b : Nat) : (([a] : List Nat) ≤ [b]) ↔ a ≤ b := by
  show ¬ (([b] : List Nat) < [a]) ↔ _
  rw [lt1]; omega
theorem dlt1 (a b : Nat) : decide (([a] : List Nat) < [b]) = decide (a < b) := decide_eq_decide.mpr (lt1 a b)
theorem c_a : (("a" : Str)).cps.toList = [97] := by decide
theorem c_z : (("z" : Str)).cps.toList = [122] := by decide
theorem c_A : (("A" : Str)).cps.toList = [65] := by decide
theorem c_Z : (("Z" : Str)).cps.toList = [90] := by decide
theorem c_sp : ((" " : Str)).cps.toList = [32] := by decide
theorem c_ti : (("~" : Str)).cps.toList = [126] := by decide
theorem list1 (c : Nat) : (Str.mk #[c]).cps.toList = [c] := rfl
theorem is_letter_to {h : Ev.Heap} {c : Nat} {Q : W → Ev.Heap → Prop} {E : Nat → List (Nat × W) → Ev.Heap → Prop} (q : Q (.bl (letterB c)) h) : (F_is_letter [.str ⟨#[c]⟩] h).to Q E := by
  unfold F_is_letter s_is_letter
  have e : letterB c = (if decide (97 ≤ c) && decide (c ≤ 122) then true else decide (65 ≤ c) && decide (c ≤ 90)) := by unfold letterB; cases decide (97 ≤ c) && decide (c ≤ 122) <;> rfl
  rw [e] at q
  simp [c_a, c_z, c_A, c_Z, lt1, le1, dlt1]
  rcases Nat.lt_or_ge c 97 with a | a
  · rcases Nat.lt_or_ge c 65 with b | b
    · exact .inl ⟨a, .inl ⟨b, by simpa [Nat.not_le.mpr a, Nat.not_le.mpr b] using q⟩⟩
    · refine .inl ⟨a, .inr ⟨b, ?_⟩⟩
      have : (!decide (90 < c)) = decide (c ≤ 90) := by by_cases z : c ≤ 90 <;> simp [z] <;> omega
      simp only [this]
      simpa [Nat.not_le.mpr a, b] using q
  · rcases Nat.lt_or_ge 122 c with b | b
    · have l90 : ¬ c ≤ 90 := by omega
      have l65 : 65 ≤ c := by omega
      refine .inr ⟨a, .inl ⟨b, .inr ⟨l65, ?_⟩⟩⟩
      simpa [a, Nat.not_le.mpr b, l90, Nat.not_le.mp l90] using q
    · refine .inr ⟨a, .inr ⟨b, ?_⟩⟩
      simpa [a, b, Nat.not_lt.mpr b] using q
def kindB (cs : List Nat) : Bool := decide (1 ≤ cs.length) && decide (cs.length ≤ 12) && (match cs with
  | [] => false
  | c :: _ => decide (65 ≤ c) && decide (c ≤ 90)) && cs.all letterB
theorem len_S (cs : List Nat) : (S cs).length = cs.length := by show cs.toArray.size = _; simp
theorem list_S (cs : List Nat) : (S cs).cps.toList = cs := by show cs.toArray.toList = _; simp
theorem is_kind_to {h : Ev.Heap} {cs : List Nat} {Q : W → Ev.Heap → Prop} {E : Nat → List (Nat × W) → Ev.Heap → Prop} (hl : cs.length ≤ 60) (q : ∀ h', Kp [] h h' → Q (.bl (kindB cs)) h') : (F_is_kind [.str (S cs)] h).to Q E := by
  have hz : sizeLine = 16777216 := sizeLine_eq
  unfold F_is_kind s_is_kind
  simp [tyOf, isi_ss, len_S, list_S, hz, pick, c_A, c_Z, lt1, le1, dlt1]
  refine ⟨by omega, ?_⟩
  cases cs with
  | nil => exact .inl ⟨by simp, q h (Kp.refl _ _)⟩
  | cons c cs =>
    simp only [List.length_cons] at hl ⊢
    refine .inr ⟨by omega, ?_⟩
    rcases Nat.lt_or_ge 12 (cs.length + 1) with a | a
    · refine .inl ⟨by omega, ?_⟩
      have e : kindB (c :: cs) = false := by unfold kindB; simp; omega
      rw [e] at q; exact q h (Kp.refl _ _)
    · refine .inr ⟨by omega, by omega, c, by simp [atI, ixN], ?_⟩
      rcases Nat.lt_or_ge c 65 with b | b
      · refine .inl ⟨b, ?_⟩
        have e : kindB (c :: cs) = false := by unfold kindB; simp; omega
        rw [e] at q; exact q h (Kp.refl _ _)
      · refine .inr ⟨b, ?_⟩
        rcases Nat.lt_or_ge 90 c with d | d
        · refine .inl ⟨d, ?_⟩
          have e : kindB (c :: cs) = false := by unfold kindB; simp; omega
          rw [e] at q
          simpa [d] using q h (Kp.refl _ _)
        · refine .inr ⟨d, by omega, comp_pure (fun _ => true) (fun x => match x with | .str s => .bl (letterB (s.cps.getD 0 0)) | _ => .non) rfl _ (fun x m => ?_) ?_⟩
          · simp only [List.mem_map] at m
            obtain ⟨c', m, rfl⟩ := m
            refine ⟨_, rfl, ?_⟩
            simp [wipeL]
            exact is_letter_to (by simp)
          · have ebl : ∀ l : List Nat, blsOf (((l.map fun c => W.str ⟨#[c]⟩).filter fun _ => true).map fun x => match x with | .str s => .bl (letterB (s.cps.getD 0 0)) | _ => .non) = some (l.map letterB) := by
              intro l
              induction l with
              | nil => rfl
              | cons c l ih =>
                simp only [List.map_cons, List.filter_cons_of_pos]
                simp only [blsOf, ih, Option.map_some]
                rfl
            refine ⟨_, ebl (c :: cs), ?_⟩
            have e : kindB (c :: cs) = ((c :: cs).map letterB).all id := by
              unfold kindB
              simp [b, d]
              intro; omega
            rw [← e]
            exact q _ (Kp.new _ _ _)
/-! labels -/
def labelB (cs : List Nat) : Bool := decide (cs.length ≤ 40) && cs.all fun c => decide (32 ≤ c) && decide (c ≤ 126) && decide (c ≠ 37)
theorem is_label_to {h : Ev.Heap} {cs : List Nat} {Q : W → Ev.Heap → Prop} {E : Nat → List (Nat × W) → Ev.Heap → Prop} (hl : cs.length ≤ 60) (q : ∀ h', Kp [] h h' → Q (.bl (labelB cs)) h') : (F_is_label [.str (S cs)] h).to Q E := by
  have hz : sizeLine = 16777216 := sizeLine_eq
  unfold F_is_label s_is_label
  simp [tyOf, isi_ss, len_S, list_S, hz]
  refine ⟨by omega, ?_⟩
  rcases Nat.lt_or_ge 40 cs.length with a | a
  · refine .inr ⟨by omega, ?_⟩
    have e : labelB cs = false := by unfold labelB; simp; omega
    rw [e] at q; exact q h (Kp.refl _ _)
  · refine .inl ⟨by omega, by omega, comp_pure (fun _ => true) (fun x => match x with | .str s => .bl (decide (32 ≤ s.cps.getD 0 0) && decide (s.cps.getD 0 0 ≤ 126) && decide (s.cps.getD 0 0 ≠ 37)) | _ => .non) rfl _ (fun x m => ?_) ?_⟩
    · simp only [List.mem_map] at m
      obtain ⟨c, m, rfl⟩ := m
      refine ⟨_, rfl, ?_⟩
      simp [wipeL]
      refine ⟨rfl, ?_⟩
      rcases Nat.lt_or_ge c 32 with a | a
      · exact .inl ⟨by omega, by omega⟩
      · refine .inr ⟨by omega, ?_⟩
        rcases Nat.lt_or_ge 126 c with b | b
        · refine .inl ⟨by omega, ?_⟩
          rw [decide_eq_false (by omega), decide_eq_false (by omega : ¬ c ≤ 126)]; simp
        · exact .inr ⟨by omega, rfl, by omega⟩
    · have ebl : ∀ l : List Nat, blsOf (((l.map fun c => W.str ⟨#[c]⟩).filter fun _ => true).map fun x => match x with | .str s => .bl (decide (32 ≤ s.cps.getD 0 0) && decide (s.cps.getD 0 0 ≤ 126) && decide (s.cps.getD 0 0 ≠ 37)) | _ => .non) = some (l.map fun c => decide (32 ≤ c) && decide (c ≤ 126) && decide (c ≠ 37)) := by
        intro l
        induction l with
        | nil => rfl
        | cons c l ih =>
          simp only [List.map_cons, List.filter_cons_of_pos]
          simp only [blsOf, ih, Option.map_some]
          rfl
      refine ⟨_, ebl cs, ?_⟩
      have e : labelB cs = (cs.map fun c => decide (32 ≤ c) && decide (c ≤ 126) && decide (c ≠ 37)).all id := by
        unfold labelB
        rw [decide_eq_true (by omega : cs.length ≤ 40), Bool.true_and, List.all_map]; rfl
      rw [← e]
      exact q _ (Kp.new _ _ _)

/-! faults -/
structure Flt where
  kind : Str
  label : Str
  num : Int
  ctx : Option Nat
  cau : Option Nat
  hid : Bool
def oW : Option Nat → W
  | none => .non
  | some n => .ref n
def fltFs (f : Flt) : List (Nat × W) := [(0, .str f.kind), (1, .str f.label), (2, .int f.num), (3, oW f.ctx), (4, oW f.cau), (5, .bl f.hid)]
def FltAt (h : Ev.Heap) (n : Nat) (f : Flt) : Prop := h.get n = some (.ins 0 (fltFs f))
section
variable {h : Ev.Heap} {n : Nat} {f : Flt} {Q : W → Ev.Heap → Prop} {E : Nat → List (Nat × W) → Ev.Heap → Prop} {P : Po} {ls : Ls}
theorem kind_to (a : FltAt h n f) (q : Q (.str f.kind) h) : (F_Fault_kind [.ref n] h).to Q E := by
  unfold F_Fault_kind s_Fault_kind
  simp [show h.get n = _ from a, fltFs, fGet, q]
theorem label_to (a : FltAt h n f) (q : Q (.str f.label) h) : (F_Fault_label [.ref n] h).to Q E := by
  unfold F_Fault_label s_Fault_label
  simp [show h.get n = _ from a, fltFs, fGet, q]
theorem number_to (a : FltAt h n f) (q : Q (.int f.num) h) : (F_Fault_number [.ref n] h).to Q E := by
  unfold F_Fault_number s_Fault_number
  simp [show h.get n = _ from a, fltFs, fGet, q]
theorem context_to (a : FltAt h n f) (q : Q (oW f.ctx) h) : (F_Fault_context [.ref n] h).to Q E := by
  unfold F_Fault_context s_Fault_context
  simp [show h.get n = _ from a, fltFs, fGet, q]
theorem cause_to (a : FltAt h n f) (q : Q (oW f.cau) h) : (F_Fault_cause [.ref n] h).to Q E := by
  unfold F_Fault_cause s_Fault_cause
  simp [show h.get n = _ from a, fltFs, fGet, q]
theorem hides_to (a : FltAt h n f) (q : Q (.bl f.hid) h) : (F_Fault_hides [.ref n] h).to Q E := by
  unfold F_Fault_hides s_Fault_hides
  simp [show h.get n = _ from a, fltFs, fGet, q]
/-- Fault(kind, label, number), all three valid -/
theorem init_to {k l : List Nat} {m : Int} (e : h.get n = some (.ins 0 [])) (ln : n < h.nx) (hk : kindB k = true) (hl : labelB l = true) (hm : 0 ≤ m) (q : ∀ h', Kp [n] h h' → FltAt h' n ⟨S k, S l, m, none, none, false⟩ → Q .non h') :
    (F_Fault___init__ [.ref n, .str (S k), .str (S l), .int m] h).to Q E := by
  have k12 : k.length ≤ 60 := by
    unfold kindB at hk
    simp only [Bool.and_eq_true, decide_eq_true_eq] at hk
    omega
  have l40 : l.length ≤ 60 := by
    unfold labelB at hl
    simp only [Bool.and_eq_true, decide_eq_true_eq] at hl
    omega
  have hz : sizeLine = 16777216 := sizeLine_eq
  have i1 : isiO clNo (.b "int") (.ty "int") = some true := by decide +kernel
  have i2 : isiO clNo (.b "int") (.ty "bool") = some false := by decide +kernel
  unfold F_Fault___init__ s_Fault___init__
  simp [pick]
  refine is_kind_to k12 fun h1 K1 => ?_
  rw [hk]
  simp
  refine is_label_to l40 fun h2 K2 => ?_
  rw [hl]
  simp [tyOf, i1, i2, hz]
  have e2 : h2.get n = some (.ins 0 []) := (K1.trans K2).get e ln (by simp)
  refine ⟨by omega, ?_⟩
  simp [e2, Heap.put_get, fPut]
  refine q _ ?_ (by simp [FltAt, fltFs, oW, Heap.put_get])
  have k0 : Kp [n] h h2 := (K1.trans K2).mono (by simp)
  refine ⟨k0.1, fun j l z => ?_⟩
  have : j ≠ n := by simpa using z
  simp [Heap.put_get, this]
  exact k0.2 j l z
/-- a pool of faults whose links stay within it -/
structure Pool (h : Ev.Heap) (fs : List Nat) (G : Nat → Flt) : Prop where
  at_ : ∀ n ∈ fs, FltAt h n (G n) ∧ n < h.nx
  nd : fs.Nodup
  ctx : ∀ n ∈ fs, ∀ m, (G n).ctx = some m → m ∈ fs
  cau : ∀ n ∈ fs, ∀ m, (G n).cau = some m → m ∈ fs
def upG (G : Nat → Flt) (n : Nat) (f : Flt) (m : Nat) : Flt := if m = n then f else G m
theorem Pool.kp {h h' : Ev.Heap} {fs : List Nat} {G : Nat → Flt} {S : List Nat} (p : Pool h fs G) (k : Kp S h h') (hS : ∀ n ∈ fs, n ∉ S) : Pool h' fs G :=
  ⟨fun n m => ⟨(k.2 n (p.at_ n m).2 (hS n m)).trans (p.at_ n m).1, Nat.lt_of_lt_of_le (p.at_ n m).2 k.1⟩, p.nd, p.ctx, p.cau⟩
theorem Pool.set {h : Ev.Heap} {fs : List Nat} {G : Nat → Flt} {n : Nat} {f : Flt} (p : Pool h fs G) (h1 : ∀ m, f.ctx = some m → m ∈ fs) (h2 : ∀ m, f.cau = some m → m ∈ fs) : Pool (h.put n (.ins 0 (fltFs f))) fs (upG G n f) := by
  refine ⟨fun m k => ⟨?_, (p.at_ m k).2⟩, p.nd, fun m k j e => ?_, fun m k j e => ?_⟩
  · unfold FltAt upG
    rw [Heap.put_get]
    by_cases z : m = n
    · rw [if_pos z, if_pos z]
    · rw [if_neg z, if_neg z]; exact (p.at_ m k).1
  · unfold upG at e
    by_cases z : m = n
    · rw [if_pos z] at e; exact h1 j e
    · rw [if_neg z] at e; exact p.ctx m k j e
  · unfold upG at e
    by_cases z : m = n
    · rw [if_pos z] at e; exact h2 j e
    · rw [if_neg z] at e; exact p.cau m k j e
theorem need_to (a : FltAt h n f) (q : Q .non h) : (F_need_fault [.ref n] h).to Q E := by
  have e : tyOf h (.ref n) = some (.c 0) := by simp [tyOf, show h.get n = _ from a]
  unfold F_need_fault s_need_fault
  simp [e, isiA, q]
theorem need_none_to {o : Option Nat} (a : ∀ m, o = some m → ∃ f, FltAt h m f) (q : Q .non h) : (F_need_fault_or_none [oW o] h).to Q E := by
  unfold F_need_fault_or_none s_need_fault_or_none
  cases o with
  | none => simp [oW, W.eqb, q]
  | some m =>
    obtain ⟨f, a⟩ := a m rfl
    simp [oW, W.eqb, pick]
    exact need_to a q
theorem with_cause_to {fs : List Nat} {G : Nat → Flt} {o : Option Nat} (p : Pool h fs G) (m : n ∈ fs) (ho : ∀ m, o = some m → m ∈ fs) (q : ∀ h', Kp [n] h h' → Pool h' fs (upG G n { G n with cau := o, hid := true }) → Q .non h') : (F_with_cause [.ref n, oW o] h).to Q E := by
  have a : h.get n = _ := (p.at_ n m).1
  unfold F_with_cause s_with_cause
  simp [pick]
  refine need_to a ?_
  refine need_none_to (fun j e => ⟨_, (p.at_ j (ho j e)).1⟩) ?_
  simp [a, Heap.put_get, fltFs, fPut]
  have := p.set (n := n) (f := { G n with cau := o, hid := true }) (p.ctx n m) ho
  refine q _ ?_ ?_
  · refine ⟨Nat.le_refl _, fun j l z => ?_⟩
    have : j ≠ n := by simpa using z
    simp [Heap.put_get, this]
  · have e : ((h.put n (Ob.ins 0 [(0, W.str (G n).kind), (1, W.str (G n).label), (2, W.int (G n).num), (3, oW (G n).ctx), (4, oW o), (5, W.bl (G n).hid)])).put n (Ob.ins 0 [(0, W.str (G n).kind), (1, W.str (G n).label), (2, W.int (G n).num), (3, oW (G n).ctx), (4, oW o), (5, W.bl true)])) = h.put n (.ins 0 (fltFs { G n with cau := o, hid := true })) := by
      unfold Heap.put
      congr 1
      funext j
      by_cases z : j = n <;> simp [z, fltFs]
    rw [e]
    exact this
end
/-! contexts end -/
inductive Ends (G : Nat → Flt) : Nat → Nat → Prop
  | nil {n : Nat} : (G n).ctx = none → Ends G n 0
  | cons {n m k : Nat} : (G n).ctx = some m → Ends G m k → Ends G n (k + 1)
theorem Ends.det {G : Nat → Flt} : ∀ {n j k : Nat}, Ends G n j → Ends G n k → j = k
  | _, _, _, .nil _, .nil _ => rfl
  | _, _, _, .nil a, .cons b _ => by rw [a] at b; cases b
  | _, _, _, .cons a _, .nil b => by rw [a] at b; cases b
  | _, _, _, .cons a r, .cons b s => by rw [a] at b; cases b; rw [Ends.det r s]
theorem nodup_le : ∀ {l fs : List Nat}, l.Nodup → (∀ z ∈ l, z ∈ fs) → l.length ≤ fs.length
  | [], _, _, _ => Nat.zero_le _
  | a :: l, fs, nd, h => by
    have ha := h a (by simp)
    have ih := nodup_le (l := l) (fs := fs.erase a) (List.nodup_cons.mp nd).2 fun z m => (List.mem_erase_of_ne (a := z) (b := a) (fun e => (List.nodup_cons.mp nd).1 (by rw [← e]; exact m))).mpr (h z (List.mem_cons_of_mem _ m))
    rw [List.length_erase_of_mem ha] at ih
    have : 0 < fs.length := List.length_pos_of_mem ha
    simp only [List.length_cons]
    omega
theorem Ends.path {G : Nat → Flt} {fs : List Nat} (c : ∀ n ∈ fs, ∀ m, (G n).ctx = some m → m ∈ fs) : ∀ {n k : Nat}, n ∈ fs → Ends G n k → ∃ l : List Nat, l.length = k + 1 ∧ l.Nodup ∧ ∀ z ∈ l, z ∈ fs ∧ ∃ j, j ≤ k ∧ Ends G z j
  | n, _, m, .nil a => ⟨[n], rfl, by simp, fun z h => by obtain rfl := List.mem_singleton.mp h; exact ⟨m, 0, Nat.le_refl _, .nil a⟩⟩
  | n, _, m, .cons (m := m') (k := k) a r => by
    obtain ⟨l, h1, h2, h3⟩ := Ends.path c (c n m m' a) r
    refine ⟨n :: l, by simp [h1], List.nodup_cons.mpr ⟨fun hm => ?_, h2⟩, fun z hz => ?_⟩
    · obtain ⟨_, j, lj, ej⟩ := h3 n hm
      have := Ends.det ej (.cons a r)
      omega
    · rcases List.mem_cons.mp hz with rfl | hz
      · exact ⟨m, k + 1, Nat.le_refl _, .cons a r⟩
      · obtain ⟨q1, j, lj, ej⟩ := h3 z hz
        exact ⟨q1, j, by omega, ej⟩
theorem Ends.lt {G : Nat → Flt} {fs : List Nat} (c : ∀ n ∈ fs, ∀ m, (G n).ctx = some m → m ∈ fs) {n k : Nat} (m : n ∈ fs) (e : Ends G n k) : k < fs.length := by
  obtain ⟨l, h1, h2, h3⟩ := Ends.path c m e
  have := nodup_le h2 fun z hz => (h3 z hz).1
  omega
/-- from x along the contexts: y is the first whose context is f, or none -/
inductive Stop (G : Nat → Flt) (f : Nat) : Nat → Nat → Nat → Prop
  | here {y : Nat} : ((G y).ctx = none ∨ (G y).ctx = some f) → Stop G f y y 0
  | step {x z y k : Nat} : (G x).ctx = some z → z ≠ f → Stop G f z y k → Stop G f x y (k + 1)
theorem Stop.of {G : Nat → Flt} (f : Nat) : ∀ {x k : Nat}, Ends G x k → ∃ y j, j ≤ k ∧ Stop G f x y j
  | x, _, .nil a => ⟨x, 0, Nat.le_refl _, .here (.inl a)⟩
  | x, _, .cons (m := m) a r => by
    by_cases z : m = f
    · subst z; exact ⟨x, 0, Nat.zero_le _, .here (.inr a)⟩
    · obtain ⟨y, j, l, s⟩ := Stop.of f r
      exact ⟨y, j + 1, by omega, .step a z s⟩
theorem Stop.mem {G : Nat → Flt} {f : Nat} {fs : List Nat} (c : ∀ n ∈ fs, ∀ m, (G n).ctx = some m → m ∈ fs) : ∀ {x y k : Nat}, Stop G f x y k → x ∈ fs → y ∈ fs
  | _, _, _, .here _, m => m
  | x, _, _, .step a _ s, m => Stop.mem c s (c x m _ a)
/-- fault f raised while hd is handled, hd's contexts cut at y -/
def raised (G : Nat → Flt) (f hd y : Nat) : Nat → Flt := upG (upG G y { G y with ctx := none }) f { upG G y { G y with ctx := none } f with ctx := some hd }
theorem raised_ctx {G : Nat → Flt} {f hd y x : Nat} : (raised G f hd y x).ctx = if x = f then some hd else if x = y then none else (G x).ctx := by
  unfold raised upG
  by_cases a : x = f
  · simp [a]
  · rw [if_neg a, if_neg a]
    by_cases b : x = y
    · rw [if_pos b, if_pos b]
    · rw [if_neg b, if_neg b]
theorem Stop.ends {G : Nat → Flt} {f hd y : Nat} : ∀ {x k : Nat}, x ≠ f → Stop G f x y k → (∃ j, Ends G x j) → ∃ j, Ends (raised G f hd y) x j
  | x, _, ne, .here _, _ => ⟨0, .nil (by rw [raised_ctx]; simp [ne])⟩
  | x, _, ne, .step (z := z) a nz s, ⟨j, e⟩ => by
    by_cases b : x = y
    · exact ⟨0, .nil (by rw [raised_ctx, if_neg ne, if_pos b])⟩
    · cases e with
      | nil c => rw [a] at c; cases c
      | cons c r =>
        rw [a] at c; cases c
        obtain ⟨i, q⟩ := Stop.ends nz s ⟨_, r⟩
        exact ⟨i + 1, .cons (by rw [raised_ctx, if_neg ne, if_neg b]; exact a) q⟩
theorem raised_ends {G : Nat → Flt} {f hd y k : Nat} (ne : hd ≠ f) (s : Stop G f hd y k) {j0 : Nat} (e0 : Ends G hd j0) : ∀ {x j : Nat}, Ends G x j → ∃ i, Ends (raised G f hd y) x i := by
  obtain ⟨i0, q0⟩ := Stop.ends (hd := hd) ne s ⟨_, e0⟩
  intro x j e
  induction e with
  | @nil x a =>
    by_cases b : x = f
    · exact ⟨i0 + 1, .cons (by rw [raised_ctx, if_pos b]) q0⟩
    · exact ⟨0, .nil (by rw [raised_ctx, if_neg b]; split; rfl; exact a)⟩
  | @cons x m k a r ih =>
    by_cases b : x = f
    · exact ⟨i0 + 1, .cons (by rw [raised_ctx, if_pos b]) q0⟩
    · by_cases d : x = y
      · exact ⟨0, .nil (by rw [raised_ctx, if_neg b, if_pos d])⟩
      · obtain ⟨i, q⟩ := ih
        exact ⟨i + 1, .cons (by rw [raised_ctx, if_neg b, if_neg d]; exact a) q⟩
theorem Stop.ne {G : Nat → Flt} {f : Nat} : ∀ {x y k : Nat}, Stop G f x y k → x ≠ f → y ≠ f
  | _, _, _, .here _, m => m
  | _, _, _, .step _ nz s, _ => Stop.ne s nz
section
variable {h : Ev.Heap} {n : Nat} {Q : W → Ev.Heap → Prop} {E : Nat → List (Nat × W) → Ev.Heap → Prop} {fs : List Nat} {G : Nat → Flt}
theorem idEq_flt {a b : Nat} {f g : Flt} (x : FltAt h a f) (y : FltAt h b g) : idEq idF h (.ref a) (.ref b) = some (decide (a = b)) := by
  simp [idEq, show h.get a = _ from x, show h.get b = _ from y, idF]
/-- raise_under(fault, handled) -/
theorem raise_to {o : Option Nat} (p : Pool h fs G) (hs : fs.length ≤ 1000) (m : n ∈ fs) (ho : ∀ m, o = some m → m ∈ fs) (he : ∀ x ∈ fs, ∃ k, Ends G x k)
    (q0 : (o = none ∨ o = some n) → Q .non h)
    (q : ∀ hd y k h', o = some hd → hd ≠ n → Stop G n hd y k → Kp [y, n] h h' → Pool h' fs (raised G n hd y) → Q .non h') : (F_raise_under [.ref n, oW o] h).to Q E := by
  have a := (p.at_ n m).1
  unfold F_raise_under s_raise_under
  simp [pick]
  refine need_to a ?_
  refine need_none_to (fun j e => ⟨_, (p.at_ j (ho j e)).1⟩) ?_
  cases o with
  | none =>
    simp [oW, W.eqb]
    exact q0 (.inl rfl)
  | some hd =>
    have mh := ho hd rfl
    have b := (p.at_ hd mh).1
    simp [oW, W.eqb, idEq_flt b a]
    by_cases z : hd = n
    · subst z
      simp
      exact q0 (.inr rfl)
    · simp [z]
      obtain ⟨k, e⟩ := he hd mh
      obtain ⟨y, j, lj, s⟩ := Stop.of n e
      have lk := Ends.lt p.ctx mh e
      refine while_inv (fun i ls h' => h' = h ∧ ∃ x, ls = [some (.ref n), some (.ref hd), some (.ref x)] ∧ x ∈ fs ∧ Stop G n x y i) (fun i ls h' J => ?_) 100000 j _ _ (by omega) ⟨rfl, hd, rfl, mh, s⟩
      obtain ⟨rfl, x, rfl, mx, sx⟩ := J
      have ax : h'.get x = _ := (p.at_ x mx).1
      have an : h'.get n = _ := a
      have fin : x = y → (G y).ctx = none ∨ (G y).ctx = some n → Q .non (((h'.put y (.ins 0 (fltFs { G y with ctx := none }))).put n (.ins 0 (fltFs { G n with ctx := some hd })))) := fun _ _ => by
        have ny : y ≠ n := Stop.ne s z
        have my : y ∈ fs := Stop.mem p.ctx s mh
        refine q hd y j _ rfl z s ?_ ?_
        · refine ⟨Nat.le_refl _, fun i l k => ?_⟩
          simp only [List.mem_cons, List.not_mem_nil, or_false, not_or] at k
          rw [Heap.put_ne k.2, Heap.put_ne k.1]
        · have p1 := p.set (n := y) (f := { G y with ctx := none }) (fun _ e => by cases e) (p.cau y my)
          have p2 := p1.set (n := n) (f := { upG G y { G y with ctx := none } n with ctx := some hd }) (fun _ e => by cases e; exact mh) (p1.cau n m)
          have e : ({ upG G y { G y with ctx := none } n with ctx := some hd } : Flt) = { G n with ctx := some hd } := by
            unfold upG
            rw [if_neg ny.symm]
          unfold raised
          rw [e] at p2 ⊢
          exact p2
      cases sx with
      | here c =>
        rcases c with c | c
        · have := fin rfl (.inl c)
          have ny : y ≠ n := Stop.ne s z
          simp [ax, fltFs, fGet, c, oW, W.eqb, fPut, Heap.put_get, an, ny, ny.symm]
          simpa [fltFs, oW] using this
        · have := fin rfl (.inr c)
          have ny : y ≠ n := Stop.ne s z
          simp [ax, fltFs, fGet, c, oW, W.eqb, idEq_flt a a, fPut, Heap.put_get, an, ny, ny.symm]
          simpa [fltFs, oW] using this
      | @step _ w _ k' c nz s' =>
        have mw := p.ctx x mx w c
        simp [ax, fltFs, fGet, c, oW, W.eqb, idEq_flt (p.at_ w mw).1 a, nz]
        exact ⟨k', by omega, mw, s'⟩
end
/-! rows_of: the faults that the links lead to -/
def addO (o : Option Nat) (l : List Nat) : List Nat := match o with
  | some m => if m ∈ l then l else l ++ [m]
  | none => l
def grow (G : Nat → Flt) (l : List Nat) (x : Nat) : List Nat := addO (G x).ctx (addO (G x).cau l)
inductive Bfs (G : Nat → Flt) : List Nat → Nat → List Nat → Prop
  | done {l : List Nat} {i : Nat} : l.length ≤ i → Bfs G l i l
  | step {l r : List Nat} {i x : Nat} : l[i]? = some x → Bfs G (grow G l x) (i + 1) r → Bfs G l i r
def numO (G : Nat → Flt) : Option Nat → W
  | none => .non
  | some m => .int (G m).num
def rowW (G : Nat → Flt) (n : Nat) : W := .tup [.int (G n).num, .str (G n).kind, .str (G n).label, numO G (G n).ctx, numO G (G n).cau, .bl (G n).hid]
theorem addO_sub {o : Option Nat} {l fs : List Nat} (h : ∀ x ∈ l, x ∈ fs) (ho : ∀ m, o = some m → m ∈ fs) : ∀ x ∈ addO o l, x ∈ fs := by
  intro x m
  cases o with
  | none => exact h x m
  | some a =>
    unfold addO at m
    simp only at m
    split at m
    · exact h x m
    · rcases List.mem_append.mp m with m | m
      · exact h x m
      · obtain rfl := List.mem_singleton.mp m; exact ho x rfl
theorem addO_nd {o : Option Nat} {l : List Nat} (h : l.Nodup) : (addO o l).Nodup := by
  cases o with
  | none => exact h
  | some a =>
    unfold addO
    simp only
    split
    · exact h
    · rename_i z
      rw [List.nodup_append]
      exact ⟨h, by simp, fun x hx y hy => by simp at hy; subst hy; rintro rfl; exact z hx⟩
theorem addO_len (o : Option Nat) (l : List Nat) : l.length ≤ (addO o l).length := by
  cases o with
  | none => exact Nat.le_refl _
  | some a =>
    unfold addO
    simp only
    split <;> simp
theorem grow_len (G : Nat → Flt) (l : List Nat) (x : Nat) : l.length ≤ (grow G l x).length := Nat.le_trans (addO_len _ _) (addO_len _ _)
section
variable {h : Ev.Heap} {n : Nat} {Q : W → Ev.Heap → Prop} {E : Nat → List (Nat × W) → Ev.Heap → Prop} {fs : List Nat} {G : Nat → Flt}
theorem refs_pool (p : Pool h fs G) : ∀ {l : List Nat}, (∀ x ∈ l, x ∈ fs) → refsOf h 0 (l.map W.ref) = some l
  | [], _ => rfl
  | x :: l, hx => by
    have a : h.get x = _ := (p.at_ x (hx x (by simp))).1
    simp [refsOf, a, refs_pool p fun y m => hx y (List.mem_cons_of_mem _ m)]
theorem numof_to {o : Option Nat} (a : ∀ m, o = some m → FltAt h m (G m)) (q : Q (numO G o) h) : (F_number_of [oW o] h).to Q E := by
  unfold F_number_of s_number_of
  cases o with
  | none => simp [oW, W.eqb]; exact q
  | some m =>
    have a := a m rfl
    simp [oW, W.eqb, show h.get m = _ from a]
    exact number_to a q
/-- one link looked at -/
theorem look_to {l : List Nat} {k m : Nat} {o : Option Nat} {P : Po} {ls2 : Option W} (p : Pool h fs G) (kf : k ∉ fs) (lk : k < h.nx) (hl : ∀ x ∈ l, x ∈ fs) (lz : l.length ≤ 1000) (e : h.get k = some (.lst (l.map W.ref))) (ho : ∀ m, o = some m → m ∈ fs)
    (q : ∀ h', Kp [k] h h' → h'.nx = h.nx → h'.get k = some (.lst ((addO o l).map W.ref)) → P.nx [some (.ref m), some (.ref k), ls2, some (oW o), none] h') :
    (sIf (bAnd (bVal (eBin wIsnt (eVar 3) (eW .non))) (bVal (eBin (wNinI idF) (eVar 3) (eVar 1)))) (sExpr (eBm "list" mAppend (eVar 1) (aCons (eVar 3) (aNil)))) (sNil) [some (.ref m), some (.ref k), ls2, some (oW o), none] h).to P := by
  have hz : sizeLine = 16777216 := sizeLine_eq
  cases o with
  | none =>
    simp [oW, W.eqb]
    exact q h (Kp.refl _ _) rfl e
  | some a =>
    have ma := ho a rfl
    have aa : h.get a = _ := (p.at_ a ma).1
    have ei : idIn idF h (.ref a) (.ref k) = some (decide (a ∈ l)) := by
      simp only [idIn, aa, seqW, lstAt, e, idF, refs_pool p hl]
      simp
    simp [oW, W.eqb, ei]
    by_cases z : a ∈ l
    · simp [z]
      have := q h (Kp.refl _ _) rfl (by simp [addO, z]; exact e)
      simpa [oW] using this
    · simp [z, wTyp, e, hz]
      refine ⟨by omega, ?_⟩
      have := q (h.put k (.lst ((l.map W.ref) ++ [.ref a]))) (Kp.put h _ (by simp)) rfl (by simp [addO, z])
      simpa [oW] using this
theorem rows1_to {l : List Nat} {k m i x : Nat} {o3 : Option W} {P : Po} (p : Pool h fs G) (kf : k ∉ fs) (lk : k < h.nx) (hl : ∀ x ∈ l, x ∈ fs) (nd : l.Nodup) (hs : fs.length ≤ 1000) (e : h.get k = some (.lst (l.map W.ref))) (ex : l[i]? = some x)
    (q : ∀ h' o4, Kp [k] h h' → h'.nx = h.nx → h'.get k = some (.lst ((grow G l x).map W.ref)) → P.nx [some (.ref m), some (.ref k), some (.int i), o4, none] h') :
    (s_rows_of_1 [some (.ref m), some (.ref k), some (.int i), o3, none] h).to P := by
  have hz : sizeLine = 16777216 := sizeLine_eq
  have mx : x ∈ fs := hl x (List.mem_of_getElem? ex)
  have ax : h.get x = _ := (p.at_ x mx).1
  have ll := nodup_le nd hl
  have hlt : i < l.length := (List.getElem?_eq_some_iff.mp ex).1
  have ai : atI (l.map W.ref) (i : Int) = some (.ref x) := by
    unfold atI ixN
    rw [if_pos (by omega), if_pos (by simpa using hlt)]
    simp [ex]
  unfold s_rows_of_1
  generalize hB : sIf (bAnd (bVal (eBin wIsnt (eVar 3) (eW .non))) (bVal (eBin (wNinI idF) (eVar 3) (eVar 1)))) (sExpr (eBm "list" mAppend (eVar 1) (aCons (eVar 3) (aNil)))) (sNil) = B
  simp [e, ai, ax, fltFs, fGet, hz]
  rw [for_cons]
  refine ⟨rfl, _, rfl, ?_⟩
  subst hB
  simp only [List.set_cons_succ, List.set_cons_zero]
  refine look_to p kf lk hl (by omega) e (p.cau x mx) fun h1 K1 n1 e1 => ?_
  simp only []
  rw [for_cons]
  refine ⟨rfl, _, rfl, ?_⟩
  simp only [List.set_cons_succ, List.set_cons_zero]
  have p1 := p.kp K1 fun y my => by simp; rintro rfl; exact kf my
  refine look_to p1 kf (by omega) (addO_sub hl (p.cau x mx)) (by have := nodup_le (addO_nd nd) (addO_sub hl (p.cau x mx)); omega) e1 (p.ctx x mx) fun h2 K2 n2 e2 => ?_
  simp only []
  rw [for_nil]
  exact ⟨rfl, q h2 _ (K1.trans K2) (n2.trans n1) e2⟩
theorem rows7_to {l : List Nat} {k m i : Nat} {o3 : Option W} {P : Po} (p : Pool h fs G) (kf : k ∉ fs) (lk : k < h.nx) (hl : ∀ x ∈ l, x ∈ fs) (lz : l.length ≤ 1000) (e : h.get k = some (.lst (l.map W.ref)))
    (q : ∀ h', Kp [] h h' → h.nx < h'.nx → h'.get h.nx = some (.lst (l.map (rowW G))) → P.rt (.ref h.nx) h') : (s_rows_of_7 [some (.ref m), some (.ref k), some (.int i), o3, none] h).to P := by
  have hz : sizeLine = 16777216 := sizeLine_eq
  unfold s_rows_of_7
  simp [e, hz]
  refine ⟨by omega, comp_pure (fun _ => true) (fun w => match w with | .ref n => rowW G n | _ => .non) (by simp [gOk, lstAt, e, W.eqbs_refl]) _ (fun w mw => ?_) ?_⟩
  · simp only [List.mem_map] at mw
    obtain ⟨x, mx, rfl⟩ := mw
    have ax := (p.at_ x (hl x mx)).1
    have ax' : h.get x = _ := ax
    refine ⟨_, rfl, ?_⟩
    simp [wipeL, ax', pick]
    refine number_to ax ?_
    simp [ax']
    refine kind_to ax ?_
    simp [ax']
    refine label_to ax ?_
    simp [ax']
    refine context_to ax ?_
    refine numof_to (G := G) (fun j ej => (p.at_ j (p.ctx x (hl x mx) j ej)).1) ?_
    simp [ax']
    refine cause_to ax ?_
    refine numof_to (G := G) (fun j ej => (p.at_ j (p.cau x (hl x mx) j ej)).1) ?_
    simp [ax']
    refine hides_to ax ?_
    simp [hz, rowW]
  · refine q _ (Kp.new _ _ _) (by simp) ?_
    simp
    rw [List.filter_eq_self.mpr (fun _ _ => rfl), List.map_map]
    rfl
theorem rows_to (p : Pool h fs G) (hs : fs.length ≤ 1000) (m : n ∈ fs) (q : ∀ r k h', Bfs G [n] 0 r → (∀ x ∈ r, x ∈ fs) → r.Nodup → Kp [] h h' → h.nx ≤ k → k < h'.nx → h'.get k = some (.lst (r.map (rowW G))) → Q (.ref k) h') : (F_rows_of [.ref n] h).to Q E := by
  have hz : sizeLine = 16777216 := sizeLine_eq
  have a := (p.at_ n m).1
  unfold F_rows_of s_rows_of s_rows_of_3 s_rows_of_4 s_rows_of_5 s_rows_of_6
  simp [pick, hz]
  refine need_to a ?_
  have nf : ∀ {x : Nat}, x ∈ fs → x ≠ h.nx := fun {x} mx => Nat.ne_of_lt (p.at_ x mx).2
  have kf : h.nx ∉ fs := fun z => (nf z) rfl
  refine while_inv (fun w ls h' => ∃ (l : List Nat) (i : Nat), ∃ o3 : Option W, w = fs.length - i ∧ i ≤ l.length ∧ ls = [some (.ref n), some (.ref h.nx), some (.int i), o3, none] ∧ Kp [h.nx] (h.new (.lst [.ref n])) h' ∧ h'.nx = h.nx + 1 ∧ h'.get h.nx = some (.lst (l.map W.ref)) ∧ l.Nodup ∧ (∀ x ∈ l, x ∈ fs) ∧ ∀ r, Bfs G l i r → Bfs G [n] 0 r)
    (fun w ls h' J => ?_) 100000 fs.length _ _ (by omega) ⟨[n], 0, none, by omega, by simp, rfl, Kp.refl _ _, rfl, by simp, by simp, by simpa using m, fun _ z => z⟩
  obtain ⟨l, i, o3, rfl, hi, rfl, K, nx, el, nd, sub, bf⟩ := J
  have ll := nodup_le nd sub
  have p' : Pool h' fs G := (p.kp (Kp.new [] h _) (by simp)).kp K fun x mx => by simp; exact nf mx
  simp [el]
  by_cases c : i < l.length
  · refine .inr ⟨c, ?_⟩
    have ex : l[i]? = some l[i] := List.getElem?_eq_getElem c
    refine rows1_to p' kf (by omega) sub nd hs el ex fun h2 o4 K2 n2 e2 => ?_
    have mx := sub _ (List.getElem_mem c)
    unfold s_rows_of_2
    simp
    refine ⟨fs.length - (i + 1), by omega, grow G l l[i], i + 1, by omega, ?_, by simp, K.trans K2, by omega, e2, ?_, ?_, fun r z => bf r (.step ex z)⟩
    · have := grow_len G l l[i]; omega
    · exact addO_nd (addO_nd nd)
    · exact addO_sub (addO_sub sub (p.cau _ mx)) (p.ctx _ mx)
  · refine .inl ⟨by omega, ?_⟩
    refine rows7_to p' kf (by omega) sub (by omega) el fun h2 K2 n2 e2 => ?_
    have Kn : Kp [] h h2 := by
      refine ⟨by have := K2.1; omega, fun j lj _ => ?_⟩
      rw [K2.2 j (by omega) (by simp), K.2 j (by simp; omega) (by simp; omega), Heap.new_ne (by omega)]
    exact q l h'.nx h2 (bf l (.done (by omega))) sub nd Kn (by omega) n2 e2
end
theorem nil_or {h2 : Ev.Heap} {ys : List W} {A B : Prop} (ha : ys.isEmpty = false → A) (hb : ys.isEmpty = true → B) :
    eqO ((h2.new (Ob.lst ys)).new (Ob.lst [])) (W.ref h2.nx) (W.ref (h2.nx + 1)) = some false ∧ A ∨ eqO ((h2.new (Ob.lst ys)).new (Ob.lst [])) (W.ref h2.nx) (W.ref (h2.nx + 1)) = some true ∧ B := by
  have e := eq_nil (h := (h2.new (Ob.lst ys)).new (Ob.lst [])) (n := h2.nx) (m := h2.nx + 1) (xs := ys) (by rw [Heap.new_ne (by simp)]; simp) (by simp [Heap.new_get])
  rw [e]
  cases z : ys.isEmpty with
  | true => exact .inr ⟨rfl, hb z⟩
  | false => exact .inl ⟨rfl, ha z⟩
end EvF
set_option maxRecDepth 100000
/-! EvPool: the laws' pool of faults with drawn links. -/
namespace EvF
open PySem L2 Ev
@[irreducible] def nxt : List W → Ev.Heap → R := F_next "mixed" 6364136223846793 1442695040888963 2305843009213693951 32749
theorem nxt_eq : nxt = F_next "mixed" 6364136223846793 1442695040888963 2305843009213693951 32749 := by unfold nxt; rfl
def s_pool_1 : SS := sAsg (eBm "list" mPop (eVar 4) (aCons (eCall (fun xs ys h => nxt (pick [(false, 0), (false, 1)] xs ys) h) 2 0 (aCons (eVar 0) (aCons (eB bLen (aCons (eVar 4) (aNil))) (aNil))) (aNil)) (aNil))) (gNm 7)
def s_pool_2 : SS := sExpr (eBm "list" mAppend (eVar 5) (aCons (eCall (mkObj 0 F_Fault___init__ (pick [(false, 0), (false, 1), (false, 2), (false, 3)])) 3 0 (aCons (eBin wIx (eVar 1) (eCall (fun xs ys h => nxt (pick [(false, 0), (false, 1)] xs ys) h) 2 0 (aCons (eVar 0) (aCons (eW (.int 5)) (aNil))) (aNil))) (aCons (eBin wIx (eVar 2) (eCall (fun xs ys h => nxt (pick [(false, 0), (false, 1)] xs ys) h) 2 0 (aCons (eVar 0) (aCons (eW (.int 5)) (aNil))) (aNil))) (aCons (eVar 7) (aNil)))) (aNil)) (aNil)))
def s_pool_3 : SS := sPar2 8 9 (aCons (eBin wIx (eVar 5) (eCall (fun xs ys h => nxt (pick [(false, 0), (false, 1)] xs ys) h) 2 0 (aCons (eVar 0) (aCons (eVar 3) (aNil))) (aNil))) (aCons (eBin wIx (eVar 5) (eCall (fun xs ys h => nxt (pick [(false, 0), (false, 1)] xs ys) h) 2 0 (aCons (eVar 0) (aCons (eVar 3) (aNil))) (aNil))) (aNil)))
def s_pool_4 : SS := sIf (bVal (eBin wEq (eCall (fun xs ys h => nxt (pick [(false, 0), (false, 1)] xs ys) h) 2 0 (aCons (eVar 0) (aCons (eW (.int 3)) (aNil))) (aNil)) (eW (.int 0)))) (sExpr (eCall (fun xs ys h => F_with_cause (pick [(false, 0), (false, 1)] xs ys) h) 2 0 (aCons (eVar 8) (aCons (eBin wIx (eLst (aCons (eVar 9) (aCons (eW .non) (aNil)))) (eBin wFdv (eCall (fun xs ys h => nxt (pick [(false, 0), (false, 1)] xs ys) h) 2 0 (aCons (eVar 0) (aCons (eW (.int 4)) (aNil))) (aNil)) (eW (.int 3)))) (aNil))) (aNil))) (sExpr (eCall (fun xs ys h => F_raise_under (pick [(false, 0), (false, 1)] xs ys) h) 2 0 (aCons (eVar 8) (aCons (eVar 9) (aNil))) (aNil)))
def s_pool_5 : SS := sPar2 1 2 (aCons (eLst (aCons (eW (.str "Error")) (aCons (eW (.str "Stop")) (aCons (eW (.str "Exit")) (aCons (eW (.str "Base")) (aCons (eW (.str "Key")) (aNil))))))) (aCons (eLst (aCons (eW (.str "")) (aCons (eW (.str "a")) (aCons (eW (.str "b: c")) (aCons (eW (.str "x (#1)")) (aCons (eW (.str "two words")) (aNil))))))) (aNil)))
def s_pool_6 : SS := sAsg (eBin wAdd (eW (.int 1)) (eCall (fun xs ys h => nxt (pick [(false, 0), (false, 1)] xs ys) h) 2 0 (aCons (eVar 0) (aCons (eW (.int 8)) (aNil))) (aNil))) (gNm 3)
def s_pool_7 : SS := sPar2 4 5 (aCons (eComp [6] (.one 6) (iRange1 (aCons (eVar 3) (aNil))) (bYes) (eBin wMul (eW (.int 3)) (eVar 6))) (aCons (eLst (aNil)) (aNil)))
def s_pool_8 : SS := sFor (.one 6) (iRange1 (aCons (eVar 3) (aNil))) (sSeq (s_pool_1) (s_pool_2))
def s_pool_9 : SS := sFor (.one 6) (iRange1 (aCons (eCall (fun xs ys h => nxt (pick [(false, 0), (false, 1)] xs ys) h) 2 0 (aCons (eVar 0) (aCons (eW (.int 16)) (aNil))) (aNil)) (aNil))) (sSeq (s_pool_3) (s_pool_4))
def s_pool_10 : SS := sRet (eVar 5)
def s_pool : SS := sSeq (s_pool_5) (sSeq (s_pool_6) (sSeq (s_pool_7) (sSeq (s_pool_8) (sSeq (s_pool_9) (s_pool_10)))))
@[irreducible] def F_pool : List W → Ev.Heap → R := fnOf 1 10 s_pool

theorem Ends.congr {G G' : Nat → Flt} (h : ∀ z, (G' z).ctx = (G z).ctx) : ∀ {n k : Nat}, Ends G n k → Ends G' n k
  | _, _, .nil a => .nil ((h _).trans a)
  | _, _, .cons a r => .cons ((h _).trans a) (Ends.congr h r)
theorem Drw.keep {h h' : Ev.Heap} {d g : Nat} {fs : List Nat} (D : Drw "mixed" h d g) (K : Kp fs h h') (df : d ∉ fs) (gf : g ∉ fs) : Drw "mixed" h' d g := by
  obtain ⟨⟨m, t, ed⟩, ⟨gl, eg, hl⟩, l1, l2, ne⟩ := D
  exact ⟨⟨m, t, K.get ed l1 df⟩, ⟨gl, K.get eg l2 gf, hl⟩, Nat.lt_of_lt_of_le l1 K.1, Nat.lt_of_lt_of_le l2 K.1, ne⟩
section
variable {h h0 : Ev.Heap} {d g n : Nat} {Q : W → Ev.Heap → Prop} {E : Nat → List (Nat × W) → Ev.Heap → Prop} {P : Po} {fs : List Nat} {G : Nat → Flt}
theorem nxt_to {b : Int} (D : Drw "mixed" h d g) (hb : 0 < b) (hb2 : b < 1073741824) (q : ∀ r h', 0 ≤ r → r < b → Drw "mixed" h' d g → Kp [d, g] h h' → Q (.int r) h') : (nxt [.ref d, .int b] h).to Q E := by
  rw [nxt_eq]; exact next_to D hb hb2 (q := q)
theorem o_popAt {n : Nat} {i : Int} : (mPop (.ref n) [.int i] h).to Q E ↔ ∃ xs w, h.get n = some (.lst xs) ∧ (0 ≤ i ∧ i < 2 ^ 63) ∧ xs[i.toNat]? = some w ∧ Q w (h.put n (.lst (xs.eraseIdx i.toNat))) := by
  show R.to (match h.get n with
    | some (.lst xs) => if 0 ≤ i ∧ i < 2 ^ 63 then match xs[i.toNat]? with
      | some w => .ok w (h.put n (.lst (xs.eraseIdx i.toNat)))
      | none => .bad
      else .bad
    | _ => .bad) Q E ↔ _
  split
  · rename_i xs e
    rw [to_ifb]
    split
    · rename_i w e2
      constructor
      · rintro ⟨z, q⟩; exact ⟨xs, w, e, z, e2, q⟩
      · rintro ⟨xs', w', e', z, e2', q⟩; rw [e] at e'; cases e'; rw [e2] at e2'; cases e2'; exact ⟨z, q⟩
    · rename_i e2
      constructor
      · rintro ⟨_, q⟩; exact q.elim
      · rintro ⟨xs', w', e', z, e2', q⟩; rw [e] at e'; cases e'; rw [e2] at e2'; cases e2'
  · rename_i n1
    constructor
    · exact False.elim
    · rintro ⟨xs, w, e, _⟩; exact (n1 xs e).elim
theorem S_self (s : Str) : S s.cps.toList = s := by cases s; simp [SX.S]
/-- Fault(kind, label, number): a new one -/
theorem mk_to {k l : Str} {m : Int} (hk : kindB k.cps.toList = true) (hl : labelB l.cps.toList = true) (hm : 0 ≤ m) (q : ∀ h', Kp [] h h' → h.nx < h'.nx → FltAt h' h.nx ⟨k, l, m, none, none, false⟩ → Q (.ref h.nx) h') :
    (mkObj 0 F_Fault___init__ (pick [(false, 0), (false, 1), (false, 2), (false, 3)]) [.str k, .str l, .int m] [] h).to Q E := by
  unfold mkObj
  rw [to_bind]
  rw [← S_self k, ← S_self l]
  simp only [pick, List.filterMap_cons, List.filterMap_nil, List.getElem?_cons_zero, List.getElem?_cons_succ, Bool.false_eq_true, if_false]
  refine init_to (by simp) (by simp) hk hl hm fun h' K F => ?_
  rw [S_self, S_self] at F
  have hn := K.1
  simp only [Heap.new_nx] at hn
  refine q h' ⟨by omega, fun j lj _ => ?_⟩ (by omega) F
  rw [K.2 j (by simp <;> omega) (by simp <;> omega), Heap.new_ne (by omega)]
def kindsM : List Str := ["Error", "Stop", "Exit", "Base", "Key"]
def labelsM : List Str := ["", "a", "b: c", "x (#1)", "two words"]
structure GoodF (f : Flt) : Prop where
  k : f.kind ∈ kindsM
  l : f.label ∈ labelsM
  n0 : 0 ≤ f.num
  n1 : f.num < 24
theorem kindsM_ok : ∀ s ∈ kindsM, kindB s.cps.toList = true := by decide
theorem labelsM_ok : ∀ s ∈ labelsM, labelB s.cps.toList = true := by decide
/-- the same but for links -/
def SameId (G G' : Nat → Flt) : Prop := ∀ x, (G' x).kind = (G x).kind ∧ (G' x).label = (G x).label ∧ (G' x).num = (G x).num
theorem SameId.refl (G : Nat → Flt) : SameId G G := fun _ => ⟨rfl, rfl, rfl⟩
theorem SameId.trans {G G1 G2 : Nat → Flt} (a : SameId G G1) (b : SameId G1 G2) : SameId G G2 := fun x => ⟨(b x).1.trans (a x).1, (b x).2.1.trans (a x).2.1, (b x).2.2.trans (a x).2.2⟩
theorem SameId.up {G : Nat → Flt} {n : Nat} {f : Flt} (h1 : f.kind = (G n).kind) (h2 : f.label = (G n).label) (h3 : f.num = (G n).num) : SameId G (upG G n f) := fun x => by
  unfold upG
  by_cases z : x = n
  · subst z; rw [if_pos rfl]; exact ⟨h1, h2, h3⟩
  · rw [if_neg z]; exact ⟨rfl, rfl, rfl⟩
theorem SameId.raised {G : Nat → Flt} {f hd y : Nat} : SameId G (raised G f hd y) := by
  unfold EvF.raised
  exact SameId.trans (SameId.up (n := y) (f := { G y with ctx := none }) rfl rfl rfl) (SameId.up rfl rfl rfl)
theorem SameId.good {G G' : Nat → Flt} (s : SameId G G') {x : Nat} (a : GoodF (G x)) : GoodF (G' x) := by
  obtain ⟨h1, h2, h3⟩ := s x
  exact ⟨by rw [h1]; exact a.k, by rw [h2]; exact a.l, by rw [h3]; exact a.n0, by rw [h3]; exact a.n1⟩
theorem SameId.nums {G G' : Nat → Flt} (s : SameId G G') (fs : List Nat) : fs.map (fun x => (G' x).num) = fs.map (fun x => (G x).num) := List.map_congr_left fun x _ => (s x).2.2
theorem Pool.add {h' : Ev.Heap} {f : Flt} {S' : List Nat} (p : Pool h fs G) (k : Kp S' h h') (hS : ∀ x ∈ fs, x ∉ S') (hn : ∀ x ∈ fs, x ≠ n) (F : FltAt h' n f) (ln : n < h'.nx) (c1 : f.ctx = none) (c2 : f.cau = none) : Pool h' (fs ++ [n]) (upG G n f) := by
  have p' := p.kp k hS
  refine ⟨fun m hm => ?_, ?_, fun m hm j e => ?_, fun m hm j e => ?_⟩
  · unfold upG
    rcases List.mem_append.mp hm with hm | hm
    · rw [if_neg (hn m hm)]; exact p'.at_ m hm
    · obtain rfl := List.mem_singleton.mp hm
      rw [if_pos rfl]; exact ⟨F, ln⟩
  · rw [List.nodup_append]
    exact ⟨p.nd, by simp, fun a ha b hb => by simp at hb; subst hb; exact hn a ha⟩
  · unfold upG at e
    rcases List.mem_append.mp hm with hm | hm
    · rw [if_neg (hn m hm)] at e
      exact List.mem_append_left _ (p.ctx m hm j e)
    · obtain rfl := List.mem_singleton.mp hm
      rw [if_pos rfl, c1] at e; cases e
  · unfold upG at e
    rcases List.mem_append.mp hm with hm | hm
    · rw [if_neg (hn m hm)] at e
      exact List.mem_append_left _ (p.cau m hm j e)
    · obtain rfl := List.mem_singleton.mp hm
      rw [if_pos rfl, c2] at e; cases e
theorem upG_same {f : Flt} : upG G n f n = f := by simp [upG]
theorem upG_ne {f : Flt} {x : Nat} (e : x ≠ n) : upG G n f x = G x := by simp [upG, e]
/-- the pool as it is handed on -/
structure PoolOk (h : Ev.Heap) (fs : List Nat) (G : Nat → Flt) : Prop where
  pool : Pool h fs G
  ends : ∀ x ∈ fs, ∃ k, Ends G x k
  good : ∀ x ∈ fs, GoodF (G x)
  nums : (fs.map fun x => (G x).num).Nodup
theorem PoolOk.kp {h' : Ev.Heap} {S' : List Nat} (p : PoolOk h fs G) (k : Kp S' h h') (hS : ∀ n ∈ fs, n ∉ S') : PoolOk h' fs G := ⟨p.pool.kp k hS, p.ends, p.good, p.nums⟩
/-- an item of a list of names, drawn -/
theorem ix_ref {k : Nat} {i : Int} {xs : List W} (e : h.get k = some (.lst xs)) (h0 : 0 ≤ i) (h1 : i < xs.length) (q : ∀ w, w ∈ xs → Q w h) : (wIx (.ref k) (.int i) h).to Q E := by
  obtain ⟨w, e1, m⟩ := atI_lt h0 h1
  simp [e, e1]
  exact q w m
theorem erase_get {α : Type} {l : List α} {i : Nat} {a : α} (h : l[i]? = some a) : ∀ x, x ∈ l.eraseIdx i → x ∈ l := fun x m => List.mem_of_mem_eraseIdx m
theorem erase_map {α β : Type} (f : α → β) : ∀ (l : List α) (i : Nat), (l.map f).eraseIdx i = (l.eraseIdx i).map f
  | [], _ => by simp
  | _ :: _, 0 => by simp
  | x :: l, i + 1 => by simp [erase_map f l i]
theorem erase_perm {α : Type} : ∀ {l : List α} {i : Nat} {a : α}, l[i]? = some a → (a :: l.eraseIdx i).Perm l
  | [], _, _, h => by simp at h
  | x :: l, 0, a, h => by simp at h; subst h; simp
  | x :: l, i + 1, a, h => by
    simp only [List.getElem?_cons_succ] at h
    simp only [List.eraseIdx_cons_succ]
    exact (List.Perm.swap x a _).trans ((erase_perm h).cons x)
structure J8 (h : Ev.Heap) (d g kk kl ks kf : Nat) (st : List Int) (xs : List W) (ls : Ls) (h' : Ev.Heap) : Prop where
  of : ∃ (st' : List Int) (fs : List Nat) (G : Nat → Flt), ∃ a6 a7 : Option W, xs.length = st'.length ∧ fs.length + st'.length = st.length ∧ ls = [some (.ref d), some (.ref kk), some (.ref kl), some (.int st.length), some (.ref ks), some (.ref kf), a6, a7, none, none] ∧ Kp [d, g, ks, kf] h h' ∧ Drw "mixed" h' d g ∧
      h'.get ks = some (.lst (st'.map W.int)) ∧ h'.get kf = some (.lst (fs.map W.ref)) ∧ Pool h' fs G ∧ (∀ x ∈ fs, h.nx ≤ x ∧ GoodF (G x) ∧ (G x).ctx = none) ∧ (st' ++ fs.map fun x => (G x).num).Nodup ∧ ∀ x ∈ st', 0 ≤ x ∧ x < 24
theorem pool8_to {ks kf kk kl : Nat} {many : Int} {a6 a7 : Option W} {st : List Int} (hm : many = st.length) (l8 : st.length ≤ 8)
    (ek : h.get kk = some (.lst (kindsM.map W.str))) (el : h.get kl = some (.lst (labelsM.map W.str))) (es : h.get ks = some (.lst (st.map W.int))) (ef : h.get kf = some (.lst []))
    (D : Drw "mixed" h d g) (n1 : kk < h.nx) (n2 : kl < h.nx) (n3 : ks < h.nx) (n4 : kf < h.nx) (ne : ks ≠ kf ∧ kk ≠ ks ∧ kk ≠ kf ∧ kl ≠ ks ∧ kl ≠ kf ∧ d ≠ kk ∧ d ≠ kl ∧ d ≠ ks ∧ d ≠ kf ∧ g ≠ kk ∧ g ≠ kl ∧ g ≠ ks ∧ g ≠ kf)
    (hs : st.Nodup) (hs0 : ∀ x ∈ st, 0 ≤ x ∧ x < 24)
    (q : ∀ h' fs G a6 a7, PoolOk h' fs G → fs.length = st.length → (∀ x ∈ fs, h.nx ≤ x) → Kp [d, g, ks, kf] h h' → Drw "mixed" h' d g → h'.get kf = some (.lst (fs.map W.ref)) → P.nx [some (.ref d), some (.ref kk), some (.ref kl), some (.int many), some (.ref ks), some (.ref kf), a6, a7, none, none] h') :
    (s_pool_8 [some (.ref d), some (.ref kk), some (.ref kl), some (.int many), some (.ref ks), some (.ref kf), a6, a7, none, none] h).to P := by
  have hz : sizeLine = 16777216 := sizeLine_eq
  obtain ⟨ne1, ne2, ne3, ne4, ne5, ne6, ne7, ne8, ne9, ne10, ne11, ne12, ne13⟩ := ne
  unfold s_pool_8
  subst hm
  simp [smallR]
  refine ⟨by omega, for_inv (J8 h d g kk kl ks kf st) _ _ _ ⟨⟨st, [], fun _ => ⟨"", "", 0, none, none, false⟩, a6, a7, by simp [rangeW], by simp, rfl, Kp.refl _ _, D, es, ef, ⟨by simp, by simp, by simp, by simp⟩, by simp, by simpa using hs, hs0⟩⟩ ?_ ?_⟩
  · rintro x xs ls h' ⟨⟨st', fs, G, b6, b7, hl, hl2, rfl, K, D', es', ef', p, hf, nd, h24⟩⟩
    refine ⟨rfl, _, rfl, ?_⟩
    have ek' := K.get ek n1 (by simp <;> omega)
    have el' := K.get el n2 (by simp <;> omega)
    have hnx := K.1
    have lst' : 0 < st'.length := by simp only [List.length_cons] at hl; omega
    unfold s_pool_1 s_pool_2
    simp [wTyp, es', pick]
    refine nxt_to D' (by omega) (by omega) fun r h1 r0 r1 D1 K1 => ?_
    have fsne : ∀ x ∈ fs, x ≠ d ∧ x ≠ g ∧ x ≠ ks ∧ x ≠ kf ∧ x < h'.nx := fun x m => by
      have := (hf x m).1
      have ld := D.ld
      have lg := D.lg
      exact ⟨by omega, by omega, by omega, by omega, (p.at_ x m).2⟩
    have es1 := K1.get es' (by omega) (by simp <;> omega)
    have ef1 := K1.get ef' (by omega) (by simp <;> omega)
    have ek1 := K1.get ek' (by omega) (by simp <;> omega)
    have el1 := K1.get el' (by omega) (by simp <;> omega)
    have p1 := p.kp K1 fun x m => by have := fsne x m; simp; omega
    have hr : r.toNat < st'.length := by omega
    have eg : st'[r.toNat]? = some st'[r.toNat] := List.getElem?_eq_getElem hr
    obtain ⟨hnum, hnum24⟩ := h24 _ (List.getElem_mem hr)
    simp [o_popAt, es1, r0, hr]
    refine ⟨by omega, ?_⟩
    generalize hv : st'[r.toNat] = v at eg hnum hnum24 ⊢
    rw [erase_map]
    have D2 : Drw "mixed" (h1.put ks (.lst ((st'.eraseIdx r.toNat).map W.int))) d g := D1.put _ (by omega) (by omega)
    have p2 : Pool (h1.put ks (.lst ((st'.eraseIdx r.toNat).map W.int))) fs G := p1.kp (Kp.put (S := [ks]) _ _ (by simp)) fun x m => by have := fsne x m; simp; omega
    have K2 : Kp [d, g, ks, kf] h (h1.put ks (.lst ((st'.eraseIdx r.toNat).map W.int))) := (K.trans (K1.mono (by simp <;> omega))).trans (Kp.put _ _ (by simp))
    have es2 : (h1.put ks (.lst ((st'.eraseIdx r.toNat).map W.int))).get ks = _ := Heap.put_same _ _ _
    have ef2 : (h1.put ks (.lst ((st'.eraseIdx r.toNat).map W.int))).get kf = _ := (Heap.put_ne (by omega)).trans ef1
    have ek2 : (h1.put ks (.lst ((st'.eraseIdx r.toNat).map W.int))).get kk = _ := (Heap.put_ne (by omega)).trans ek1
    have el2 : (h1.put ks (.lst ((st'.eraseIdx r.toNat).map W.int))).get kl = _ := (Heap.put_ne (by omega)).trans el1
    have n2' : h'.nx ≤ (h1.put ks (.lst ((st'.eraseIdx r.toNat).map W.int))).nx := K1.1
    generalize h1.put ks (.lst ((st'.eraseIdx r.toNat).map W.int)) = h2 at D2 p2 K2 es2 ef2 ek2 el2 n2' ⊢
    have ek2' := ek2
    simp only [kindsM, List.map_cons, List.map_nil] at ek2'
    simp [ef2]
    refine nxt_to D2 (by omega) (by omega) fun r3 h3 r30 r31 D3 K3 => ?_
    have ek3 := K3.get ek2 (by omega) (by simp <;> omega)
    have el3 := K3.get el2 (by omega) (by simp <;> omega)
    refine ix_ref ek3 r30 (by simpa [kindsM] using r31) fun w mw => ?_
    obtain ⟨kd, mkd, rfl⟩ := List.mem_map.mp mw
    refine nxt_to D3 (by omega) (by omega) fun r4 h4 r40 r41 D4 K4 => ?_
    have el4 := K4.get el3 (by have := K3.1; omega) (by simp <;> omega)
    refine ix_ref el4 r40 (by simpa [labelsM] using r41) fun w mw => ?_
    obtain ⟨lb, mlb, rfl⟩ := List.mem_map.mp mw
    refine mk_to (kindsM_ok kd mkd) (labelsM_ok lb mlb) hnum fun h5 K5 n5 F5 => ?_
    have K35 : Kp [d, g] h2 h5 := (K3.trans K4).trans (K5.mono (by simp))
    have ef5 := K35.get ef2 (by omega) (by simp <;> omega)
    have es5 := K35.get es2 (by omega) (by simp <;> omega)
    have n34 : h2.nx ≤ h4.nx := Nat.le_trans K3.1 K4.1
    have D5 := D4.kp K5
    simp [ef5, hz]
    refine ⟨by omega, ⟨st'.eraseIdx r.toNat, fs ++ [h4.nx], upG G h4.nx ⟨kd, lb, v, none, none, false⟩, _, _, ?_, ?_, rfl, ?_, ?_, ?_, ?_, ?_, ?_, ?_, ?_⟩⟩
    · rw [List.length_eraseIdx_of_lt hr]; simp only [List.length_cons] at hl; omega
    · rw [List.length_eraseIdx_of_lt hr]; simp; omega
    · exact (K2.trans (K35.mono (by simp <;> omega))).trans (Kp.put _ _ (by simp))
    · exact D5.put _ (by omega) (by omega)
    · rw [Heap.put_ne (by omega)]; exact es5
    · simp
    · refine p2.add (S' := [d, g, kf]) ((K35.mono (by simp <;> omega)).trans (Kp.put _ _ (by simp))) (fun x m => by have := fsne x m; simp; omega) (fun x m => by have := fsne x m; omega) ?_ (by simpa using n5) rfl rfl
      unfold FltAt
      rw [Heap.put_ne (by omega)]; exact F5
    · intro x m
      rcases List.mem_append.mp m with m | m
      · rw [upG_ne (by have := fsne x m; omega)]; exact hf x m
      · obtain rfl := List.mem_singleton.mp m
        rw [upG_same]
        exact ⟨by omega, ⟨mkd, mlb, hnum, hnum24⟩, rfl⟩
    · rw [List.map_append, List.map_cons, List.map_nil, upG_same]
      rw [show fs.map (fun x => (upG G h4.nx ⟨kd, lb, v, none, none, false⟩ x).num) = fs.map (fun x => (G x).num) from List.map_congr_left fun x m => by rw [upG_ne (by have := fsne x m; omega)]]
      have pm : (st'.eraseIdx r.toNat ++ (fs.map (fun x => (G x).num) ++ [v])).Perm (st' ++ fs.map fun x => (G x).num) := by
        refine List.Perm.trans ?_ ((erase_perm eg).append_right _)
        rw [← List.append_assoc]
        refine List.perm_append_comm.trans ?_
        simp
      exact pm.nodup_iff.mpr nd
    · exact fun x m => h24 x (List.mem_of_mem_eraseIdx m)
  · rintro ls h' ⟨⟨st', fs, G, b6, b7, hl, hl2, rfl, K, D', es', ef', p, hf, nd, h24⟩⟩
    refine ⟨rfl, ?_⟩
    have : st' = [] := List.length_eq_zero_iff.mp (by simpa using hl.symm)
    subst this
    exact q h' fs G b6 b7 ⟨p, fun x m => ⟨0, .nil (hf x m).2.2⟩, fun x m => (hf x m).2.1, by simpa using nd⟩ (by simpa using hl2) (fun x m => (hf x m).1) K D' ef'
theorem PoolOk.set {n : Nat} {f : Flt} {h' : Ev.Heap} (p : PoolOk h fs G) (k : Pool h' fs (upG G n f)) (e1 : f.kind = (G n).kind) (e2 : f.label = (G n).label) (e3 : f.num = (G n).num) (e4 : f.ctx = (G n).ctx) : PoolOk h' fs (upG G n f) := by
  have s : SameId G (upG G n f) := SameId.up e1 e2 e3
  refine ⟨k, fun x m => ?_, fun x m => s.good (p.good x m), by rw [s.nums]; exact p.nums⟩
  obtain ⟨j, e⟩ := p.ends x m
  exact ⟨j, Ends.congr (fun z => by unfold upG; by_cases q : z = n <;> simp [q, e4]) e⟩
theorem PoolOk.raised {n hd y k : Nat} {h' : Ev.Heap} (p : PoolOk h fs G) (q : Pool h' fs (EvF.raised G n hd y)) (ne : hd ≠ n) (s : Stop G n hd y k) (m : hd ∈ fs) : PoolOk h' fs (EvF.raised G n hd y) := by
  have i : SameId G (EvF.raised G n hd y) := SameId.raised
  obtain ⟨j0, e0⟩ := p.ends hd m
  refine ⟨q, fun x mx => ?_, fun x mx => i.good (p.good x mx), by rw [i.nums]; exact p.nums⟩
  obtain ⟨j, e⟩ := p.ends x mx
  exact raised_ends ne s e0 e
/-- raise_under in a pool -/
theorem raiseP_to {m : Nat} (p : PoolOk h fs G) (hs : fs.length ≤ 1000) (mn : n ∈ fs) (mm : m ∈ fs) (q : ∀ h' G', Kp fs h h' → PoolOk h' fs G' → SameId G G' → Q .non h') : (F_raise_under [.ref n, .ref m] h).to Q E := by
  have := raise_to (h := h) (n := n) (Q := Q) (E := E) (fs := fs) (G := G) (o := some m) p.pool hs mn (fun _ e => by cases e; exact mm) p.ends (fun _ => q h G (Kp.refl _ _) p (SameId.refl _)) fun hd y k h' e ne s K p' => ?_
  · exact this
  · cases e
    have my := Stop.mem p.pool.ctx s mm
    exact q h' _ (K.mono fun z mz => by simp at mz; rcases mz with rfl | rfl <;> assumption) (p.raised p' ne s mm) SameId.raised
theorem withP_to {o : Option Nat} (p : PoolOk h fs G) (mn : n ∈ fs) (ho : ∀ m, o = some m → m ∈ fs) (q : ∀ h' G', Kp fs h h' → PoolOk h' fs G' → SameId G G' → Q .non h') : (F_with_cause [.ref n, oW o] h).to Q E := by
  refine with_cause_to p.pool mn ho fun h' K p' => ?_
  exact q h' _ (K.mono fun z mz => by simp at mz; subst mz; exact mn) (p.set p' rfl rfl rfl rfl) (SameId.up rfl rfl rfl)
structure J9 (h : Ev.Heap) (d g kk kl ks kf : Nat) (fs : List Nat) (G : Nat → Flt) (a7 : Option W) (xs : List W) (ls : Ls) (h' : Ev.Heap) : Prop where
  of : ∃ G' : Nat → Flt, ∃ a6 a8 a9 : Option W, ls = [some (.ref d), some (.ref kk), some (.ref kl), some (.int fs.length), some (.ref ks), some (.ref kf), a6, a7, a8, a9] ∧ PoolOk h' fs G' ∧ SameId G G' ∧ Kp (d :: g :: fs) h h' ∧ Drw "mixed" h' d g
theorem pool9_to {kk kl ks kf : Nat} {many : Int} {a6 a7 a8 a9 : Option W} (p : PoolOk h fs G) (hm : many = fs.length) (l8 : fs.length ≤ 8) (l1 : 0 < fs.length) (ef : h.get kf = some (.lst (fs.map W.ref))) (D : Drw "mixed" h d g) (nf : kf ∉ fs) (df : d ∉ fs) (gf : g ∉ fs) (lf : kf < h.nx) (ne : kf ≠ d ∧ kf ≠ g)
    (q : ∀ h' G' a6 a8 a9, PoolOk h' fs G' → SameId G G' → Kp (d :: g :: fs) h h' → Drw "mixed" h' d g → h'.get kf = some (.lst (fs.map W.ref)) → P.nx [some (.ref d), some (.ref kk), some (.ref kl), some (.int many), some (.ref ks), some (.ref kf), a6, a7, a8, a9] h') :
    (s_pool_9 [some (.ref d), some (.ref kk), some (.ref kl), some (.int many), some (.ref ks), some (.ref kf), a6, a7, a8, a9] h).to P := by
  have hz : sizeLine = 16777216 := sizeLine_eq
  obtain ⟨ne1, ne2⟩ := ne
  have sub : ∀ x ∈ [d, g], x ∈ d :: g :: fs := by simp
  have subf : ∀ x ∈ fs, x ∈ d :: g :: fs := fun x m => by simp [m]
  subst hm
  unfold s_pool_9
  simp [pick]
  refine nxt_to D (by omega) (by omega) fun r h1 r0 r1 D1 K1 => ?_
  refine ⟨r, rfl, by simp [smallR]; omega, for_inv (J9 h d g kk kl ks kf fs G a7) _ _ _ ⟨⟨G, a6, a8, a9, rfl, p.kp K1 (fun x m => by simp; exact ⟨fun e => df (e ▸ m), fun e => gf (e ▸ m)⟩), SameId.refl _, K1.mono sub, D1⟩⟩ ?_ ?_⟩
  · rintro x xs ls h' ⟨⟨G', b6, b8, b9, rfl, p', i', K', D'⟩⟩
    refine ⟨rfl, _, rfl, ?_⟩
    have ef' := K'.get ef lf (by simp; exact ⟨ne1, ne2, nf⟩)
    have ln := K'.1
    have out : ∀ {ha hb : Ev.Heap}, Kp [d, g] ha hb → ∀ {G0 : Nat → Flt}, PoolOk ha fs G0 → PoolOk hb fs G0 := fun k _ pp => pp.kp k fun x m => by simp; exact ⟨fun e => df (e ▸ m), fun e => gf (e ▸ m)⟩
    unfold s_pool_3 s_pool_4
    simp [pick]
    refine nxt_to D' (by omega) (by omega) fun r2 h2 r20 r21 D2 K2 => ?_
    have ef2 := K2.get ef' (by omega) (by simp <;> omega)
    refine ix_ref ef2 r20 (by simpa using r21) fun w mw => ?_
    obtain ⟨one, mone, rfl⟩ := List.mem_map.mp mw
    refine nxt_to D2 (by omega) (by omega) fun r3 h3 r30 r31 D3 K3 => ?_
    have ef3 := K3.get ef2 (by have := K2.1; omega) (by simp <;> omega)
    refine ix_ref ef3 r30 (by simpa using r31) fun w mw => ?_
    obtain ⟨far, mfar, rfl⟩ := List.mem_map.mp mw
    try simp only []
    refine nxt_to D3 (by omega) (by omega) fun r4 h4 r40 r41 D4 K4 => ?_
    have p4 := out K4 (out K3 (out K2 p'))
    have K04 : Kp (d :: g :: fs) h h4 := K'.trans (((K2.trans K3).trans K4).mono sub)
    simp only [eqO_int, Option.some.injEq, beq_iff_eq, beq_eq_false_iff_ne]
    by_cases z : r4 = 0
    · refine .inr ⟨z, by omega, ?_⟩
      refine nxt_to (D4.new _) (by omega) (by omega) fun r5 h5 r50 r51 D5 K5 => ?_
      have p5 := out K5 (p4.kp (Kp.new [] h4 (.lst [.ref far, .non])) (by simp))
      have K05 : Kp (d :: g :: fs) h h5 := K04.trans ((Kp.new _ _ _).trans (K5.mono sub))
      have e5 : h5.get h4.nx = some (.lst [.ref far, .non]) := K5.get (Heap.new_same _ _) (by simp) (by have := D4.ld; have := D4.lg; simp; omega)
      simp [-o_ix_int]
      refine ix_ref e5 (by omega) (by show r5 / 3 < (2 : Int); omega) fun w mw => ?_
      have fin : ∀ o : Option Nat, (∀ m, o = some m → m ∈ fs) → w = oW o → (F_with_cause [.ref one, w] h5).to (fun _ h1 => J9 h d g kk kl ks kf fs G a7 xs [some (W.ref d), some (W.ref kk), some (W.ref kl), some (W.int fs.length), some (W.ref ks), some (W.ref kf), some x, a7, some (.ref one), some (.ref far)] h1) fun c es h1 => P.ex c es [some (W.ref d), some (W.ref kk), some (W.ref kl), some (W.int fs.length), some (W.ref ks), some (W.ref kf), some x, a7, some (.ref one), some (.ref far)] h1 := fun o ho e => by
        subst e
        refine withP_to p5 mone ho fun h6 G6 K6 p6 i6 => ?_
        exact ⟨⟨G6, _, _, _, rfl, p6, i'.trans i6, K05.trans (K6.mono subf), Drw.keep D5 K6 df gf⟩⟩
      simp only [List.mem_cons, List.not_mem_nil, or_false] at mw
      rcases mw with rfl | rfl
      · exact fin (some far) (fun _ e => by cases e; exact mfar) rfl
      · exact fin none (fun _ e => by cases e) rfl
    · refine .inl ⟨z, raiseP_to p4 (by omega) mone mfar fun h6 G6 K6 p6 i6 => ?_⟩
      exact ⟨⟨G6, _, _, _, rfl, p6, i'.trans i6, K04.trans (K6.mono subf), Drw.keep D4 K6 df gf⟩⟩
  · rintro ls h' ⟨⟨G', b6, b8, b9, rfl, p', i', K', D'⟩⟩
    exact ⟨rfl, q h' G' b6 b8 b9 p' i' K' D' (K'.get ef lf (by simp; exact ⟨ne1, ne2, nf⟩))⟩
/-- the pool: so many new faults, their links within it -/
theorem pool_to (D : Drw "mixed" h d g) (q : ∀ h' k fs G, PoolOk h' fs G → 0 < fs.length → fs.length ≤ 8 → (∀ x ∈ fs, h.nx ≤ x) → h.nx ≤ k → k < h'.nx → k ∉ fs → Kp [d, g] h h' → Drw "mixed" h' d g → h'.get k = some (.lst (fs.map W.ref)) → Q (.ref k) h') : (F_pool [.ref d] h).to Q E := by
  have hz : sizeLine = 16777216 := sizeLine_eq
  have ld := D.ld
  have lg := D.lg
  unfold F_pool s_pool s_pool_5 s_pool_6 s_pool_7 s_pool_10
  simp [hz, pick]
  have D2 := (D.new (.lst (kindsM.map W.str))).new (.lst (labelsM.map W.str))
  have k2 : ((h.new (.lst (kindsM.map W.str))).new (.lst (labelsM.map W.str))).get h.nx = some (.lst (kindsM.map W.str)) := by simp [Heap.new_get]
  have l2 : ((h.new (.lst (kindsM.map W.str))).new (.lst (labelsM.map W.str))).get (h.nx + 1) = some (.lst (labelsM.map W.str)) := by simp [Heap.new_get]
  have K2 : Kp [d, g] h ((h.new (.lst (kindsM.map W.str))).new (.lst (labelsM.map W.str))) := (Kp.new _ _ _).trans (Kp.new _ _ _)
  have n2 : ((h.new (.lst (kindsM.map W.str))).new (.lst (labelsM.map W.str))).nx = h.nx + 2 := rfl
  simp only [kindsM, labelsM, List.map_cons, List.map_nil] at D2 k2 l2 K2 n2
  generalize ((h.new (Ob.lst [W.str "Error", W.str "Stop", W.str "Exit", W.str "Base", W.str "Key"])).new (Ob.lst [W.str "", W.str "a", W.str "b: c", W.str "x (#1)", W.str "two words"])) = h2 at D2 k2 l2 K2 n2 ⊢
  refine nxt_to (b := 8) D2 (by omega) (by omega) fun r h3 r0 r1 D3 K3 => ?_
  have n3 := K3.1
  have k3 := K3.get k2 (by omega) (by simp <;> omega)
  have l3 := K3.get l2 (by omega) (by simp <;> omega)
  simp
  refine ⟨by simp [smallR]; omega, by simp [rangeW]; omega, comp_pure (fun _ => true) (fun w => match w with | .int i => .int (3 * i) | _ => .non) rfl _ (fun w mw => ?_) ?_⟩
  · simp [rangeW] at mw
    obtain ⟨i, li, rfl⟩ := mw
    refine ⟨_, rfl, ?_⟩
    simp [wipeL]
    exact .inl (by decide)
  · have est : ((rangeW 0 (1 + r)).filter fun _ => true).map (fun w => match w with | .int i => W.int (3 * i) | _ => .non) = ((List.range (1 + r).toNat).map fun i : Nat => (3 * (i : Int))).map W.int := by
      rw [List.filter_eq_self.mpr (fun _ _ => rfl)]
      simp [rangeW]
    rw [est]
    generalize hst : ((List.range (1 + r).toNat).map fun i : Nat => (3 * (i : Int))) = st
    have lst : st.length = (1 + r).toNat := by subst hst; simp
    refine pool8_to (st := st) (by rw [lst]; omega) (by omega) (by rw [Heap.new_ne (by simp <;> omega), Heap.new_ne (by omega)]; exact k3) (by rw [Heap.new_ne (by simp <;> omega), Heap.new_ne (by omega)]; exact l3) (by simp [Heap.new_get]) (by simp [Heap.new_get]) ((D3.new _).new _) (by simp <;> omega) (by simp <;> omega) (by simp <;> omega) (by simp <;> omega) (by simp <;> omega) ?_ ?_ fun h5 fs G b6 b7 p5 hl hfs K5 D5 ef5 => ?_
    · subst hst
      unfold List.Nodup
      rw [List.pairwise_map]
      exact (List.nodup_range (n := (1 + r).toNat)).imp fun ne e => ne (by omega)
    · subst hst
      intro x mx
      simp at mx
      obtain ⟨i, li, rfl⟩ := mx
      omega
    · simp at hfs
      simp
      refine pool9_to p5 (by rw [hl, lst]; omega) (by omega) (by omega) ef5 D5 (fun m => by have := hfs _ m; omega) (fun m => by have := hfs _ m; omega) (fun m => by have := hfs _ m; omega) (by have := K5.1; simp at this; omega) (by omega) fun h6 G6 b6 b8 b9 p6 i6 K6 D6 ef6 => ?_
      simp
      have n5 := K5.1
      simp at n5
      have n6 := K6.1
      refine q h6 _ fs G6 p6 (by omega) (by omega) (fun x m => by have := hfs x m; omega) (by omega) (by omega) (fun m => by have := hfs _ m; omega) ?_ D6 ef6
      refine ⟨by omega, fun j lj nj => ?_⟩
      rw [K6.2 j (by omega) (by simp at nj ⊢; exact ⟨nj.1, nj.2, fun m => by have := hfs j m; omega⟩), K5.2 j (by simp <;> omega) (by simp at nj ⊢; omega), Heap.new_ne (by simp <;> omega), Heap.new_ne (by omega), K3.2 j (by omega) nj, K2.2 j lj nj]
end
end EvF
set_option maxRecDepth 100000
/-! EvOwn: len(x) and x[i] of own classes, tables by subscript, f-strings, range(a, b, -1), list(..), tuple(..). -/
namespace Ev
open PySem L2 PySem.Spec PyProof.Rows
section
variable {X : Cx} {CX : CXT} {N : Nm} {Wx : WX} {pins : List (Addr × Obj)} {σ : L2.St} {H : Hp} {s : Shared} {ρ : List Addr} {h : Heap} {k n : Nat} {fa : Addr} {x q : Str} {st : Stmt} {ps : List Str} {F : List W → Heap → R} {sel : List (Bool × Nat)} {xs : List W} {vs : List V} {us : List Value} {Q : VK} {E' : XK}
/-- an own method is called below a built-in -/
theorem own_call {A : Around} (D : MdOk X.prog X.w X.K X.mg X.base N k fa x q st ps F) (bd : BdQ x q st ps n [] sel) (hr : Room k A) (hgu : A.guards = some []) (e0 : Env0 X.prog X.w X.K X.mg X.base A X.stack s H) (I : Inv X pins σ H s)
    (r : Vals vs us) (rx : VRs X.K ρ H xs vs) (hn : us.length = n) (hh : HR X.K N ρ h H) (o : Out X.K N ρ H (F (pick sel xs []) h).calm Q E') : wpAny (model X.prog X.w) A (call (.ref fa) us) (EP X pins σ Q) X.xe s := by
  obtain ⟨fd, h2, h3⟩ := D.ex
  obtain ⟨g, k1, k2⟩ := FunD.kbq h2 bd
  obtain ⟨os, z1, z2⟩ := k2 rx .nil r .nil hn rfl
  have sp : LSp X.K N F os H Q (fun _ _ _ => False) := by
    refine ⟨ρ, _, h, z1, hh, ?_⟩
    cases e : F (pick sel xs []) h with
    | ok w h1 => rw [e] at o; exact o
    | exc => rw [e] at o; exact o.elim
    | bad => rw [e] at o; exact o.elim
  refine wpAny_call (codeAny_mono (h3.run A X.stack s H ⟨us, []⟩ (g us []) os Q _ hr hgu e0 (k1 s us [] I.kIn hn rfl) z2 sp) fun r s' hq => ?_)
  cases r with
  | error e =>
    obtain ⟨_, _, _, _, _, _, _, _, _, _, _, _, z⟩ := hq
    exact z.elim
  | ok fl => cases fl with
    | ret u => exact I.after hq
    | _ => exact False.elim hq
def lenR : R → R
  | .ok (.int k) h' => if 0 ≤ k ∧ k < 2 ^ 63 then .ok (.int k) h' else .bad
  | _ => .bad
/-- len(x), x of the class c -/
def bLenC (c : Nat) (G : List W → Heap → R) : List W → Heap → R := fun ws h => match ws with
  | [.ref n] => match h.get n with
    | some (.ins d _) => if d = c then lenR (G [.ref n] h) else .bad
    | _ => .bad
  | _ => .bad
/-- x[i], x of the class c -/
def wGetC (c : Nat) (G : List W → Heap → R) : W → W → Heap → R := fun x y h => match x with
  | .ref n => match h.get n with
    | some (.ins d _) => if d = c then (G [.ref n, y] h).calm else .bad
    | _ => .bad
  | _ => .bad
theorem okb_lenC {c : Nat} (hm : Meth X.K (N.ca c) "__len__" fa) (D : MdOk X.prog X.w X.K X.mg X.base N k fa x q st ps F) (bd : BdQ x q st ps 1 [] sel) (hr : Room (k + 1) X.A) (hgu : X.A.guards = some []) : CalOk X N (.builtin "len") (bLenC c (fun xs h => F (pick sel xs []) h)) := by
  refine ⟨fun vs H Q => ∃ a dx fs ρ h n, vs = [V.ref a] ∧ H a = some (.ins (N.ca c) dx fs) ∧ ρ[n]? = some a ∧ HR X.K N ρ h H ∧ ∃ E', Out X.K N ρ H (lenR (F (pick sel [.ref n] []) h)) Q E', ?_, ?_⟩
  · intro pins s σ H vs us Q I r hq
    obtain ⟨a, dx, fs, ρ, h, n, rfl, ha, hn, hh, E', o⟩ := hq
    obtain ⟨u, rfl, ru⟩ := r.one
    cases (show u = Value.ref a from ru)
    obtain ⟨_, O1, _⟩ := ins_get I.hok ha
    obtain ⟨_, J1, _⟩ := O1.look
    obtain ⟨m, hF⟩ := I.fr
    refine PySem.W.len_K hF I.ok.mod.kin J1 hm.at_ hm.fn ?_
    have o2 : Out X.K N ρ H (F (pick sel [.ref n] []) h).calm (fun v H' => ∃ i, v = V.int i ∧ (0 ≤ i ∧ i < 2 ^ 63) ∧ Q (.int i) H') E' := by
      cases e : F (pick sel [.ref n] []) h with
      | ok w h1 =>
        rw [e] at o
        intro ρ' H' v ex r1 rv
        unfold lenR at o
        cases w with
        | int i =>
          simp only at o
          split at o
          · rename_i c1
            cases rv
            exact ⟨i, rfl, c1, o ρ' H' _ ex r1 (.int _)⟩
          · exact o.elim
        | _ => exact o.elim
      | exc => rw [e] at o; exact o.elim
      | bad => rw [e] at o; exact o.elim
    refine wpAny_mono (own_call (A := X.A.in1) (us := [.ref a]) (vs := [.ref a]) (xs := [.ref n]) D bd (Room.in1 hr) hgu I.env0.in1 I (.cons rfl .nil) (.cons (.ref hn) .nil) rfl hh o2) (fun v s' z => ?_) fun _ _ z => z
    obtain ⟨z, H', I', rz, i, rfl, c1, q1⟩ := z
    obtain ⟨t, rfl⟩ := rz
    exact ⟨c1, .int i, H', I'.tok _, ⟨_, rfl⟩, q1⟩
  · intro ρ h H ws vs Q E hr r o
    match ws, r with
    | [], _ => exact o.elim
    | [.ref n], .cons (.ref (a := a) p) .nil =>
      simp only [bLenC] at o
      split at o
      · rename_i d fs eg
        split at o
        · rename_i ec
          subst ec
          obtain ⟨dx, fs', e1, _, _⟩ := ins_of hr eg p
          exact ⟨a, dx, fs', ρ, h, n, rfl, e1, p, hr, E, o⟩
        · exact o.elim
      · exact o.elim
    | w :: w' :: ws, _ => exact (by cases w <;> exact o.elim)
    | [.non], _ => exact o.elim
    | [.bl _], _ => exact o.elim
    | [.int _], _ => exact o.elim
    | [.str _], _ => exact o.elim
    | [.tup _], _ => exact o.elim
    | [.fl _], _ => exact o.elim
    | [.gl _], _ => exact o.elim
    | [.ty _], _ => exact o.elim
theorem r_getC {c : Nat} {a b : PySem.Expr} {f g : SE} {pos : Pos} (hm : Meth X.K (N.ca c) "__getitem__" fa) (D : MdOk X.prog X.w X.K X.mg X.base N k fa x q st ps F) (bd : BdQ x q st ps 2 [] sel) (hr : Room (k + 1) X.A) (hgu : X.A.guards = some [])
    (ha : PE X a (LE X.K N Wx f)) (hb : PE X b (LE X.K N Wx g)) (hs : ∀ o i, subscripted b true o i = runValue (.builtin "lifetime.subscript" ⟨[o, i], []⟩) := by exact fun _ _ => rfl) :
    PE X (.Subscript a b pos) (LE X.K N Wx (eBin (wGetC c (fun xs h => F (pick sel xs []) h)) f g)) := by
  refine ⟨fun pins s σ H Q I h => ?_⟩
  have h2 := two_in (R := fun v u H => ∃ ρ h x y, HR X.K N ρ h H ∧ VR X.K ρ H x v ∧ VR X.K ρ H y u ∧ Out X.K N ρ H (wGetC c (fun xs h => F (pick sel xs []) h) x y h) Q (fun c d H' => Wx c d σ H')) h fun ρ h H x y v u hr rx ry o => ⟨ρ, h, x, y, hr, rx, ry, o⟩
  refine Subscript_ (binT ha hb I h2 fun v u s2 x y H2 I2 rx ry q => ?_)
  obtain ⟨ρ, h, w, z, hh, qx, qy, o⟩ := q
  cases qx with
  | @ref n a p =>
    obtain rfl : v = Value.ref a := rx
    simp only [wGetC] at o
    split at o
    · rename_i d fs eg
      split at o
      · rename_i ec
        subst ec
        obtain ⟨dx, fs', e1, _, _⟩ := ins_of hh eg p
        obtain ⟨_, O1, _⟩ := ins_get I2.hok e1
        obtain ⟨_, J1, _⟩ := O1.look
        obtain ⟨m, hF⟩ := I2.fr
        have hfn : PySem.W.fnIn X.K fa = true := by
          obtain ⟨fd, h2, h3⟩ := D.ex
          obtain ⟨oc, od, dV, kV, doc, pm, an, cdv, ct, osl, rfl, lk, hcd, _, _⟩ := h2.ex
          unfold PySem.W.fnIn
          rw [lk]
        refine PySem.W.sub_K hF I2.ok.mod.kin J1 hm.at_ hfn hm.fn ?_ (hs _ _)
        exact own_call (A := X.A.in1) (us := [.ref a, u]) (vs := [.ref a, y]) D bd (Room.in1 hr) hgu I2.env0.in1 I2 (.cons rfl (.cons ry .nil)) (.cons (.ref p) (.cons qy .nil)) rfl hh o
      · exact o.elim
    · exact o.elim
  | _ => exact o.elim
end
section
variable {X : Cx} {N : Nm} {Wx : WX} {pos p p1 : Pos} {a b c e : PySem.Expr} {f g : SE} {gs : SEs} {x : Str} {d : Addr} {tab : List (Str × Str)} {tg : PySem.Expr}
/-- T[e], T a written dict of the module -/
theorem r_tabix (D : TabOk X.K X.w d tab) (hm : X.mg x = some (.ref d)) (he : PE X e (LE X.K N Wx f)) (hg : Gl X x := by rfl) (hdb : (x == ("__debug__" : Str)) = false := by decide) (hs : PlainIx e := by exact fun _ _ => rfl) :
    PE X (.Subscript (.Name x p1) e pos) (LE X.K N Wx (eTabIx tab f)) := by
  refine ⟨fun pins s σ H Q I ⟨ρ, ls, hp, l, hr, o⟩ => ?_⟩
  obtain ⟨es0, n0, kd0, em0⟩ := D.ex
  refine Subscript_ (ld_glob I hg hm ?_ hdb)
  have h2 : LE X.K N Wx f σ H fun v H1 => ∃ ρ h x, HR X.K N ρ h H1 ∧ VR X.K ρ H1 x v ∧ Out X.K N ρ H1 ((fun (x : W) (h : Heap) => match x with
    | .str z => match tab.find? (fun p => p.1 == z) with
      | some p => R.ok (.str p.2) h
      | none => .bad
    | _ => .bad) x h) Q (fun c d H' => Wx c d σ H') := one_in (f := f) ⟨ρ, ls, hp, l, hr, o⟩ fun ρ ls h H x v l hr rx o => ⟨ρ, h, x, hr, rx, o⟩
  refine thn (he.run pins s σ H _ I h2) fun u s1 ⟨v, H1, I1, rv, ρ, h, x, hr, rx, o⟩ => ?_
  cases rx with
  | str z =>
    obtain ⟨t, rfl⟩ := rv
    simp only at o
    split at o
    · rename_i p ep
      obtain ⟨es, n, kd, r, er, cs⟩ := D.found z
      have et : tabGet tab z = .str p.2 := by unfold tabGet; rw [ep]
      rcases cs with ⟨c1, _⟩ | ⟨v, t2, c1, rfl⟩
      · rw [et] at c1; cases c1
      · rw [et] at c1
        cases c1
        refine tail_any (kd_type kd I1) PySem.F.slot_dict_getitem.lookup ?_ (hs _ _)
        exact wpAny_getItem_of (PySem.strKind_is X.prog X.w z t) (PySem.W.mapOf_K (prog := X.prog) I1.kIn kd.at_ kd.lit) er ⟨.str p.2, H1, I1.tok _, ⟨_, rfl⟩, o.val hr (.str _)⟩
    · exact o.elim
  | _ => exact o.elim
/-! f-strings -/
def wFmt : W → Heap → R
  | .str y, h => if y.length ≤ sizeLine then .ok (.str y) h else .bad
  | .int i, h => if i.natAbs.log2 < 1920 then .ok (.str (toString i)) h else .bad
  | _, _ => .bad
def eJs : List SE → Str → SE
  | [], acc => fun ls h => .ok (.str acc) h
  | f :: fs, acc => fun ls h => (f ls h).bind fun x h1 => match x with
    | .str y => if (acc ++ y).length ≤ sizeLine then eJs fs (acc ++ y) ls h1 else .bad
    | _ => .bad
theorem r_fmt (he : PE X e (LE X.K N Wx f)) : PE X (.FormattedValue e (-1) none pos) (LE X.K N Wx (eUn wFmt f)) :=
  PE.imp (pe_fmt he) fun σ H Q h => one_in h fun ρ ls h H x v l hr rx o => by
    cases rx with
    | str y =>
      simp only [wFmt] at o
      split at o
      · exact .inl ⟨y, rfl, by assumption, o.val hr (.str _)⟩
      · exact o.elim
    | int i =>
      simp only [wFmt] at o
      split at o
      · exact .inr ⟨i, rfl, by assumption, o.val hr (.str _)⟩
      · exact o.elim
    | _ => exact o.elim
/-- the parts' readings -/
inductive PJs (X : Cx) (N : Nm) (Wx : WX) : List PySem.Expr → List SE → Prop where
  | nil : PJs X N Wx [] []
  | cons {e : PySem.Expr} {f : SE} {es : List PySem.Expr} {fs : List SE} (h : PE X e (LE X.K N Wx f)) (r : PJs X N Wx es fs) : PJs X N Wx (e :: es) (f :: fs)
theorem PJs.pj {es : List PySem.Expr} {fs : List SE} (h : PJs X N Wx es fs) : PJ X es (fs.map fun f => LE X.K N Wx f) := by
  induction h with
  | nil => exact .nil
  | cons h r ih => exact .cons h ih
theorem js_in {K : PySem.W.Frag} : ∀ {fs : List SE} {acc : Str} {ρ : List Addr} {ls : Ls} {h : Heap} {H : Hp} {σ : L2.St} {Q : VK}, LR K ρ H ls σ → HR K N ρ h H → Out K N ρ H (eJs fs acc ls h) Q (fun c d H' => Wx c d σ H') → tJs (fs.map fun f => LE K N Wx f) acc σ H fun out H1 => Q (.str out) H1
  | [], acc, ρ, ls, h, H, σ, Q, l, hr, o => o.val hr (.str _)
  | f :: fs, acc, ρ, ls, h, H, σ, Q, l, hr, o => by
    refine ⟨ρ, ls, h, l, hr, (Out.bind o).mono (fun v H1 z => ?_) fun _ _ _ z => z⟩
    obtain ⟨ρ1, x, h1, e1, hr1, rx, o1⟩ := z
    cases rx with
    | str y =>
      simp only at o1
      split at o1
      · exact ⟨y, rfl, by assumption, js_in (l.ex e1) hr1 o1⟩
      · exact o1.elim
    | _ => exact o1.elim
theorem r_fstr {v1 v2 : PySem.Expr} {rest : List PySem.Expr} {fs : List SE} (h : PJs X N Wx (v1 :: v2 :: rest) fs) : PE X (.JoinedStr (v1 :: v2 :: rest) pos) (LE X.K N Wx (eJs fs Str.empty)) :=
  PE.imp (pe_joined h.pj) fun σ H Q ⟨ρ, ls, hp, l, hr, o⟩ => js_in l hr o
/-! range(a, b, -1) -/
def rangeD (hi lo : Int) : List W := (List.range (hi - lo).toNat).map fun i => W.int (hi + (i : Nat) * -1)
def iRangeD (gs : SEs) : SI := fun ls h => match gs ls h with
  | .ok [.int i, .int j, .int (-1)] h1 => if (smallR i && smallR j) = true then .ok (rangeD i j) [] h1 else .bad
  | .ok _ _ => .bad
  | .exc c fs h1 => .exc c fs h1
  | .bad => .bad
theorem i_rangeD (hg : Gl X "range") (hm : X.mg "range" = none) (ha : PA X [a, b, c] (LA X.K N Wx gs)) (hs : starEach [a, b, c] X.env = (false, eval a X.env) :: starEach [b, c] X.env := by rfl) (hpl : (backTo pos (starEach [b, c] X.env)).any (·.1) = false := by rfl) :
    PI X tg (.Call (.Name "range" p) [a, b, c] [] pos) (LI X.K N Wx (iRangeD gs)) := by
  refine PI.imp (pi_range3 hg hm ha hs hpl) fun σ H R h => ?_
  obtain ⟨ρ, ls, hp, l, hr, o⟩ := h
  refine ⟨ρ, ls, hp, l, hr, ?_⟩
  unfold iRangeD at o
  cases e : gs ls hp with
  | ok ws h1 =>
    rw [e] at o
    intro ρ' H' vs ex r x
    split at o
    · rename_i xs g h2 e2
      split at e2
      · rename_i i j h3 e3
        split at e2
        · rename_i z
          cases e3
          cases e2
          simp only [smallR, Bool.and_eq_true, decide_eq_true_eq] at z
          cases x with
          | cons q1 x => cases x with
            | cons q2 x => cases x with
              | cons q3 x =>
                cases x; cases q1; cases q2; cases q3
                exact ⟨i, j, -1, _, rfl, RgC.neg z.1.1 z.1.2 z.2.1 z.2.2, o ρ' H' (Itc i (-1) (i - j).toNat) ex r src_rangeC⟩
        · cases e2
      · cases e2
      · cases e2
      · cases e2
    · rename_i e2; split at e2 <;> first | (split at e2 <;> cases e2; done) | (cases e2; rename_i e3; cases e3; done) | (cases e2; done)
    · exact o.elim
  | exc c fs h1 => rw [e] at o; exact o
  | bad => rw [e] at o; exact o.elim
/-! list(..), tuple(..) -/
def bTuple : List W → Heap → R := fun ws h => match ws with
  | [w] => match itemsW h w with
    | some xs => .ok (.tup xs) h
    | none => .bad
  | _ => .bad
def bList : List W → Heap → R := fun ws h => match ws with
  | [w] => match itemsW h w with
    | some xs => .ok (.ref h.nx) (h.new (.lst xs))
    | none => .bad
  | _ => .bad
theorem okb_tuple : CalOk X N (.type "tuple") bTuple := by
  refine ⟨_, call_tuple_of, fun ρ h H ws vs Q E hr r o => ?_⟩
  match ws, r with
  | [], _ => exact o.elim
  | [w], .cons q .nil =>
    simp only [bTuple] at o
    split at o
    · rename_i xs e
      obtain ⟨a, ys, rfl, h1, h2⟩ := itemsW_in hr e q
      refine ⟨a, ys, rfl, ?_⟩
      rcases h1 with h1 | h1
      · exact .inr ⟨h1, o.val hr (.tup h1 h2)⟩
      · exact .inl ⟨h1, Out.newT hr h2 o⟩
    · exact o.elim
  | _ :: _ :: _, _ => exact o.elim
theorem okb_list : CalOk X N (.type "list") bList := by
  refine ⟨_, call_list_of, fun ρ h H ws vs Q E hr r o => ?_⟩
  match ws, r with
  | [], _ => exact o.elim
  | [w], .cons q .nil =>
    simp only [bList] at o
    split at o
    · rename_i xs e
      obtain ⟨a, ys, rfl, h1, h2⟩ := itemsW_in hr e q
      exact ⟨a, ys, rfl, h1.symm, Out.newL hr h2 o⟩
    · exact o.elim
  | _ :: _ :: _, _ => exact o.elim
/-- list(range(e)) -/
def eListRg (f : SE) : SE := eUn (fun x h => match x with
  | .int n => if 0 ≤ n ∧ n ≤ 2 ^ 24 then .ok (.ref h.nx) (h.new (.lst (rangeW 0 n))) else .bad
  | _ => .bad) f
theorem rg_vr {K : PySem.W.Frag} {ρ : List Addr} {H : Hp} (i j : Int) : VRs K ρ H (rangeW i j) (rgV i j) := by
  unfold rangeW rgV
  generalize List.range (j - i).toNat = l
  induction l with
  | nil => exact .nil
  | cons m l ih => exact .cons (.int _) ih
theorem r_listRg {pl p0 : Pos} (hc : X.calm = true) (hgl : Gl X "list") (hml : X.mg "list" = none) (hg : Gl X "range") (hm : X.mg "range" = none) (he : PE X e (LE X.K N Wx f)) (hs : starEach [e] X.env = (false, eval e X.env) :: starEach [] X.env := by rfl)
    (na : starEach [PySem.Expr.Call (.Name "range" p) [e] [] pl] X.env = (false, eval (PySem.Expr.Call (.Name "range" p) [e] [] pl) X.env) :: starEach [] X.env := by rfl) : PE X (.Call (.Name "list" p0) [.Call (.Name "range" p) [e] [] pl] [] pos) (LE X.K N Wx (eListRg f)) :=
  PE.imp (pe_listRg hc hgl hml (prg_1 hg hm he hs) na) fun σ H Q h => one_in h fun ρ ls h H x v l hr rx o => by
    cases rx with
    | int n =>
      simp only at o
      split at o
      · rename_i z
        exact ⟨n, rfl, RgOk.of_le (by omega) (by omega) (by omega) (by omega), Out.newL hr (rg_vr _ _) o⟩
      · exact o.elim
    | _ => exact o.elim
end
/-! ### what must hold -/
section
variable {ls : Ls} {h : Heap} {Q : W → Heap → Prop} {E : Nat → List (Nat × W) → Heap → Prop} {tab : List (Str × Str)} {f : SE}
theorem to_lenR {r : R} : (lenR r).to Q E ↔ r.to (fun x h1 => ∃ k, x = .int k ∧ (0 ≤ k ∧ k < 2 ^ 63) ∧ Q (.int k) h1) (fun _ _ _ => False) := by
  cases r with
  | ok x h1 =>
    cases x with
    | int k => show R.to (if 0 ≤ k ∧ k < 2 ^ 63 then .ok (.int k) h1 else .bad) Q E ↔ _; rw [to_ifb]; simp
    | _ => simp [lenR]
  | exc => rfl
  | bad => rfl
theorem to_lenC {c n d : Nat} {fs : List (Nat × W)} {G : List W → Heap → R} (e : h.get n = some (.ins d fs)) (ed : d = c) : (bLenC c G [.ref n] h).to Q E ↔ (G [.ref n] h).to (fun x h1 => ∃ k, x = .int k ∧ (0 ≤ k ∧ k < 2 ^ 63) ∧ Q (.int k) h1) (fun _ _ _ => False) := by
  have : bLenC c G [.ref n] h = lenR (G [.ref n] h) := by unfold bLenC; simp only [e, ed, if_true]
  rw [this, to_lenR]
theorem to_calm' {r : R} : r.calm.to Q E ↔ r.to Q (fun _ _ _ => False) := by cases r <;> rfl
theorem to_getC {c n d : Nat} {y : W} {fs : List (Nat × W)} {G : List W → Heap → R} (e : h.get n = some (.ins d fs)) (ed : d = c) : (wGetC c G (.ref n) y h).to Q E ↔ (G [.ref n, y] h).to Q (fun _ _ _ => False) := by
  have : wGetC c G (.ref n) y h = (G [.ref n, y] h).calm := by unfold wGetC; simp only [e, ed, if_true]
  rw [this, to_calm']
@[simp] theorem x_tabix : (eTabIx tab f ls h).to Q E ↔ (f ls h).to (fun x h1 => ∃ z y, x = .str z ∧ (tab.find? fun p => p.1 == z).map (·.2) = some y ∧ Q (.str y) h1) E := by
  unfold eTabIx
  rw [to_bind]
  cases f ls h with
  | ok x h1 =>
    cases x with
    | str z =>
      cases e : tab.find? (fun p => p.1 == z) with
      | none => simp [e]
      | some p =>
        simp only [to_ok, e, Option.map_some, W.str.injEq, Option.some.injEq]
        exact ⟨fun q => ⟨z, p.2, rfl, by rw [e]; rfl, q⟩, fun ⟨z', y, e1, e2, q⟩ => by subst e1; rw [e] at e2; cases e2; exact q⟩
    | _ => simp
  | exc => rfl
  | bad => rfl
@[simp] theorem o_tuple {w : W} : (bTuple [w] h).to Q E ↔ ∃ xs, itemsW h w = some xs ∧ Q (.tup xs) h := by
  show R.to (match itemsW h w with
    | some xs => .ok (.tup xs) h
    | none => .bad) Q E ↔ _
  cases itemsW h w <;> simp
@[simp] theorem o_list {w : W} : (bList [w] h).to Q E ↔ ∃ xs, itemsW h w = some xs ∧ Q (.ref h.nx) (h.new (.lst xs)) := by
  show R.to (match itemsW h w with
    | some xs => .ok (.ref h.nx) (h.new (.lst xs))
    | none => .bad) Q E ↔ _
  cases itemsW h w <;> simp
@[simp] theorem x_listRg : (eListRg f ls h).to Q E ↔ (f ls h).to (fun x h1 => ∃ n, x = .int n ∧ (0 ≤ n ∧ n ≤ 2 ^ 24) ∧ Q (.ref h1.nx) (h1.new (.lst (rangeW 0 n)))) E := by
  unfold eListRg eUn
  rw [to_bind]
  cases f ls h with
  | ok x h1 =>
    cases x with
    | int n => simp only [to_ok]; rw [to_ifb]; simp
    | _ => simp
  | exc => rfl
  | bad => rfl
@[simp] theorem o_fmtS {y : Str} : (wFmt (.str y) h).to Q E ↔ y.length ≤ sizeLine ∧ Q (.str y) h := by unfold wFmt; rw [to_ifb]; rfl
@[simp] theorem o_fmtI {i : Int} : (wFmt (.int i) h).to Q E ↔ i.natAbs.log2 < 1920 ∧ Q (.str (toString i)) h := by unfold wFmt; rw [to_ifb]; rfl
@[simp] theorem x_js0 {acc : Str} : (eJs [] acc ls h).to Q E ↔ Q (.str acc) h := Iff.rfl
@[simp] theorem x_js {fs : List SE} {acc : Str} : (eJs (f :: fs) acc ls h).to Q E ↔ (f ls h).to (fun x h1 => ∃ y, x = .str y ∧ (acc ++ y).length ≤ sizeLine ∧ (eJs fs (acc ++ y) ls h1).to Q E) E := by
  conv => lhs; unfold eJs
  rw [to_bind]
  cases f ls h with
  | ok x h1 =>
    cases x with
    | str y => simp only [to_ok]; rw [to_ifb]; simp
    | _ => simp
  | exc => rfl
  | bad => rfl
@[simp] theorem z_rangeD {gs : SEs} {Q : List W → List (Nat × List W) → Heap → Prop} : (iRangeD gs ls h).to Q E ↔ (gs ls h).to (fun xs h1 => ∃ i j, xs = [.int i, .int j, .int (-1)] ∧ (smallR i && smallR j) = true ∧ Q (rangeD i j) [] h1) E := by
  unfold iRangeD
  cases gs ls h with
  | ok xs h1 =>
    simp only [tos_ok]
    constructor
    · intro q
      split at q
      · rename_i i j h2 e
        cases e
        by_cases c : (smallR i && smallR j) = true
        · rw [if_pos c] at q; exact ⟨i, j, rfl, c, q⟩
        · rw [if_neg c] at q; exact q.elim
      · exact q.elim
      · rename_i e; cases e
      · exact q.elim
    · rintro ⟨i, j, rfl, c, q⟩
      simp only [c, if_true]
      exact q
  | exc => rfl
  | bad => rfl
end
end Ev
set_option maxRecDepth 100000
/-! EvExc: own exceptions raised. -/
namespace Ev
open PySem L2 PySem.Spec PyProof.Rows
section
variable {X : Cx} {x : Str} {B : Addr} {e : PySem.Expr} {es : List PySem.Expr} {ta : TA} {p1 p2 pos : Pos}
/-- B.__init__(self, ..): B an own class without an __init__ of its own, over ValueError -/
theorem pe_binit {pl : Sem Bool} (hg : Gl X x) (hm : X.mg x = some (.ref B)) (gB : PySem.W.specialIn X.K (.ref B) "__getattribute__" = some (some (.builtin "type.__getattribute__"))) (tB : PySem.W.typeIn X.K (.ref B) = some (.type "type"))
    (rB : PySem.W.readsIn X.K B (.type "type") = true) (vB : PySem.W.findCls X.K (.ref B) (.type "type") "__init__" = some (.val (.builtin "ValueError.__init__"))) (ha : PA X (e :: es) ta) (hdb : (x == ("__debug__" : Str)) = false := by decide)
    (hc : eval (.Call (.Attribute (.Name x p1) "__init__" p2) (e :: es) [] pos) X.env = (do
      let ov ← eval (.Name x p1) X.env
      standAt p2.atName
      let (f, first) ← holding [ov] (getMethod ov "__init__" pl)
      callWith pos f first (backTo pos (starEach (e :: es) X.env)) (backToKw pos (keywordEach [] X.env))) := by rfl)
    (he : starEach (e :: es) X.env = (false, eval e X.env) :: starEach es X.env := by rfl) (hpl : (backTo pos (starEach es X.env)).any (·.1) = false := by rfl) :
    PE X (.Call (.Attribute (.Name x p1) "__init__" p2) (e :: es) [] pos) (tVeI X.K ta) := by
  refine ⟨fun pins s σ H Q I h => ?_⟩
  refine PySem.W.methodCall_KW (ld_glob I hg hm ?_ hdb) hc
  obtain ⟨m, fr⟩ := I.fr
  refine PySem.W.method_of_cls fr I.ok.mod.kin gB (PySem.W.cls_val fr I.ok.mod.kin tB rB vB (by decide +kernel) ?_)
  refine callWith_method1 (thn (ha.run pos pins _ σ H _ (I.tok _) h) fun us s1 ⟨vs, H1, I1, r1, a, C, ws, ev, hl, T, ea, q⟩ => ?_) he hpl
  subst ev
  cases r1 with
  | @cons _ u0 _ ur ra rw' =>
    obtain rfl : u0 = Value.ref a := ra
    have hlen : ur.length ≤ sizeLine := by
      rw [← Paired.length rw', sizeLine_eq]
      omega
    exact oinit_ok T I1 ea hlen fun s' J => ⟨.non, H1, J, rfl, q⟩
end
/-- what an own exception's __init__ does: one field -/
def spX (K : PySem.W.Frag) (C : Addr) (fld : Str) : Sp := fun vs H Q E => ∃ (a : Addr) (v : V), vs = [.ref a, v] ∧ OexC K C ∧ PySem.W.findIn K (.ref C) fld = some none ∧ H a = some (exo a C none) ∧
  ∀ dx, H dx = none → dx ≠ a → Q .non (upd (upd H dx (exd dx [(fld, v)])) a (exo a C (some dx)))
theorem xinit_ok {P : Program} {w : World} {K : PySem.W.Frag} {mg : Str → Option Value} {base : PySem.Heap} {f C : Addr} {q p fld msg : Str} {st : Stmt} (D : FnAt K f "__init__" q st) (S : FnScope ["self", p] ["self", p] (defScope st))
    (hb : ∀ (cdv : Value) (A : Around) (outer : List Env) (s : Shared) (H : Hp) (E : XK), PSs (cxOf (L2.CX P w) P w K mg base ["self", p] q (defScope st) f cdv A outer s H E) (defBody st) (tSeq (tDrop (tVeI K (tCons (tVar 0) (tCons (tC (.str msg)) tNil)))) (tSeq (tOst K fld (tVar 0) (tVar 1)) tNext))) :
    ∃ fd, FunD K "__init__" q (defArgs st) (defBody st) (defScope st) [] [] f fd ∧ FnOk P w K mg base (L2.CX P w) 1 f fd ["self", p] (spX K C fld) := by
  obtain ⟨fd, h⟩ := D
  refine ⟨fd, h, FunD.ok h S (fun vs H Q E ⟨a, v, e, _⟩ => by rw [e]; rfl) fun cdv A outer s H vs Q E hr ⟨a, v, e, T, hno, ea, q⟩ => ⟨_, hb cdv A outer s H E, ?_⟩⟩
  subst e
  refine ⟨.ref a, rfl, a, C, [.str msg], rfl, by simp, T, ea, v, rfl, .ref a, rfl, a, C, rfl, T, hno, .inl ⟨ea, fun dx n ne => q dx n ne⟩⟩
/-- raise C(e): C has one field -/
def sRaise1 (c i : Nat) (gs : SEs) : SS := fun ls h => match gs ls h with
  | .ok [w] h1 => .exc c [(i, w)] ls h1
  | .ok _ _ => .bad
  | .exc c fs h1 => .exc c fs ls h1
  | .bad => .bad
section
variable {X : Cx} {N : Nm} {Wx : WX} {x : Str} {c i : Nat} {fI : Addr} {fd : FuncData} {p fld : Str} {e : PySem.Expr} {gs : SEs} {p1 pos rpos : Pos}
theorem s_raise1 (hc : X.calm = true) (tk : Takes X Wx) (T : OexC X.K (N.ca c)) (hno : PySem.W.findIn X.K (.ref (N.ca c)) (N.an i) = some none) (iC : PySem.W.findIn X.K (.ref (N.ca c)) "__init__" = some (some (.ref fI))) (tI : PySem.W.typeIn X.K (.ref fI) = some (.type "function"))
    (F1 : FnOk X.prog X.w X.K X.mg X.base (L2.CX X.prog X.w) 1 fI fd ["self", p] (spX X.K (N.ca c) (N.an i))) (hr : Room 2 X.A) (hb : Binds X.K fd ["self", p] []) (hx : Passes (L2.CX X.prog X.w) X (fun _ _ _ => False)) (hm : X.mg x = some (.ref (N.ca c)))
    (ha : PA X [e] (LA X.K N Wx gs)) (hg : Gl X x := by rfl) (hdb : (x == ("__debug__" : Str)) = false := by decide) (he : starEach [e] X.env = (false, eval e X.env) :: starEach [] X.env := by rfl) (hpl : (backTo pos (starEach [] X.env)).any (·.1) = false := by rfl) :
    PS X (.Raise (some (.Call (.Name x p1) [e] [] pos)) none rpos) (LS X.K N Wx (sRaise1 c i gs)) := by
  refine PS.imp (ps_raise hc tk (pmk_oex (dvs := []) T iC tI F1 hr hb .nil hx hg hm ha hdb he hpl)) fun D σ H h => ?_
  obtain ⟨ρ, ls, hp, l, hr, o⟩ := h
  unfold sRaise1 at o
  refine ⟨ρ, ls, hp, l, hr, ?_⟩
  cases e1 : gs ls hp with
  | ok ws h1 =>
    rw [e1] at o
    intro ρ' H1 vs ex r rx
    match ws, rx with
    | [], _ => exact o.elim
    | [w], .cons (y := v) rv .nil =>
      refine ⟨by simp, fun a na => ?_⟩
      refine ⟨a, v, rfl, T, hno, upd_same, fun dx nd ne => ⟨rfl, dx, [(N.an i, v)], ?_, ?_, ?_, ?_⟩⟩
      · exact upd_same
      · rw [upd_ne ne, upd_same]
      · rw [upd_ne ne] at nd; exact nd
      · rw [upd_ne ne] at nd
        have eH : upd (del (upd (upd (upd H1 a (exo a (N.ca c) none)) dx (exd dx [(N.an i, v)])) a (exo a (N.ca c) (some dx))) a) dx (.xd [(N.an i, v)]) = upd H1 dx (.xd [(N.an i, v)]) := by
          funext b
          by_cases hb : b = dx
          · rw [hb, upd_same, upd_same]
          · rw [upd_ne hb, upd_ne hb]
            by_cases hb2 : b = a
            · rw [hb2, del_same, na]
            · rw [del_ne hb2, upd_ne hb2, upd_ne hb, upd_ne hb2]
        rw [eH]
        have ex2 : Ex ρ' ρ' H1 (upd H1 dx (.xd [(N.an i, v)])) := Ex.other nd
        exact o ρ' σ _ (some dx) (ex.trans ex2) ((l.ex ex).ex ex2) (r.other nd) ⟨by simp, fun m => r.fresh nd _ m rfl, _, upd_same, rfl, .cons (rv.ex ex2) .nil⟩
    | _ :: _ :: _, _ => exact o.elim
  | exc c' fs h1 =>
    rw [e1] at o
    exact fun ρ' H' d ex r z => o ρ' σ H' d ex (l.ex ex) r z
  | bad => rw [e1] at o; exact o.elim
end
/-! ### what must hold -/
section
variable {ls : Ls} {h : Heap} {P : Po} {gs : SEs} {c i : Nat}
@[simp] theorem z_raise1 : (sRaise1 c i gs ls h).to P ↔ (gs ls h).to (fun xs h1 => ∃ w, xs = [w] ∧ P.ex c [(i, w)] ls h1) fun c fs h1 => P.ex c fs ls h1 := by
  unfold sRaise1
  cases gs ls h with
  | ok xs h1 =>
    match xs with
    | [] => simp
    | [w] => simp
    | _ :: _ :: _ => simp
  | exc => rfl
  | bad => rfl
end
end Ev
set_option maxRecDepth 100000
set_option maxHeartbeats 2000000
/-! EvTry: try .. except with several clauses; a caught exception is an object of the heap like others. -/
namespace Ev
open PySem L2 PySem.Spec PyProof.Rows
section
variable {X : Cx} {pins : List (Addr × Obj)} {σ : L2.St} {H : Hp} {s sI s' : Shared} {B : PySem.Heap} {a : Addr} {cls : Value} {d : Option Addr}
theorem xcO_tup {xs : List V} : xcO a cls d ≠ .tup xs := fun z => by
  unfold xcO at z; cases z
theorem xcO_frz {o : Obj} {u : HO} : xcO a cls d ≠ .frz o u := fun z => by
  unfold xcO at z; cases z
theorem xcO_own {x : Addr} : xcO a cls d ≠ .own x := fun z => by
  unfold xcO at z; cases z
theorem xcO_at {P : Program} {w : World} {h : PySem.Heap} (hok : HOk P w H h) (e : H a = some (xcO a cls d)) : ∃ oe vs, h.get? a = some oe ∧ oe.cls = cls ∧ oe.dict = d ∧ oe.data = .fields vs := by
  have x : ObjOk P w H h a (xcO a cls d) := hok a _ e
  unfold xcO at x
  exact x.1
theorem xcO_ok {P : Program} {w : World} {h : PySem.Heap} {oe : Obj} {vs : Array Value} (e : h.get? a = some oe) (hz : Zc cls d oe) (hd : oe.data = .fields vs) : ObjOk P w H h a (xcO a cls d) := by
  unfold xcO
  exact ⟨⟨oe, vs, e, hz.1, hz.2, hd⟩, ⟨oe, e⟩, fun h1 h2 ⟨o, v, q, r⟩ k => ⟨o, v, k _ q, r⟩⟩
/-- it is none of ours: nothing that stood at the def's entry, no frame, nothing pinned -/
theorem track (I : Inv X pins σ H s) {oe : Obj} {vs : Array Value} (e : s.heap.get? a = some oe) (hz : Zc cls d oe) (hd : oe.data = .fields vs) (na : H a = none) (nL : a ≠ X.env.locals) (n0 : X.s_0.heap.get? a = none) (np : ∀ p ∈ X.pn ++ pins, p.1 ≠ a) :
    Inv X pins σ (upd H a (xcO a cls d)) s := by
  refine ⟨I.ok, I.os, I.bare, ⟨I.base.keep, I.base.slot, fun b o q n hx => ?_, I.base.there, fun b xs q => ?_, fun b o u q => ?_, fun b ps q => ?_⟩, I.loc, I.cell, ?_, fun x c q => ?_, fun p hp => ?_, fun b o q => ?_, I.len⟩
  · have ne : b ≠ a := fun z => by rw [z, n0] at q; cases q
    rw [upd_ne ne]; exact I.base.free b o q n hx
  · have z := I.base.tups b xs q
    rw [upd_ne (ne_of_none z na)]; exact z
  · have z := I.base.frzs b o u q
    rw [upd_ne (ne_of_none z na)]; exact z
  · obtain ⟨m, z⟩ := I.base.tbls b ps q
    exact ⟨m, by rw [upd_ne (ne_of_none z na)]; exact z⟩
  · rw [upd_ne (Ne.symm nL)]; exact I.free
  · have ne : c ≠ a := fun z => by
      obtain ⟨v, ob, h1, h2⟩ := I.cell x c q
      rw [z, e] at h1
      cases h1
      rw [hd] at h2; cases h2
    rw [upd_ne ne]; exact I.freeC x c q
  · obtain ⟨h1, h2, h3⟩ := I.pin p hp
    exact ⟨h1, by rw [upd_ne (np p hp)]; exact h2, h3⟩
  · by_cases hb : b = a
    · subst hb
      rw [upd_same] at q
      cases q
      exact xcO_ok e hz hd
    · rw [upd_ne hb] at q
      exact (I.hok b o q).stay (fun _ _ _ z => z) (fun c z => by rw [upd_ne (ne_of_none z na)]; exact z) fun c xs z => by rw [upd_ne (ne_of_none z na)]; exact z
/-- into a suite, out of it -/
theorem inHot (I : Inv X pins σ H s) (a : Addr) : Inv (X.suite a X.pn) pins σ H s := ⟨I.ok.suite _ _, I.os, I.bare, I.base, I.loc, I.cell, I.free, I.freeC, I.pin, I.hok, I.len⟩
theorem outHot (I : Inv (X.suite a X.pn) pins σ H s) (ok : X.Ok) : Inv X pins σ H s := ⟨ok, I.os, I.bare, I.base, I.loc, I.cell, I.free, I.freeC, I.pin, I.hok, I.len⟩
end
/-! ### clauses -/
abbrev HWx := WX → Ends → WX
/-- an exception lies before clauses -/
structure Lies (X : Cx) (pins : List (Addr × Obj)) (a : Addr) (cls : Value) (d : Option Addr) (σ : L2.St) (H : Hp) (s' : Shared) (B : PySem.Heap) (sI : Shared) : Prop where
  inv : Inv X pins σ H sI
  nb : ∀ b o, sI.heap.get? b = some o → b ∉ frs X.stack → B.get? b = some o
  up : sI.heap.UpToSlots s'.heap
  fl : HandSPX.FlyingZ B X.stack a (Zc cls d) s'.heap
  na : H a = none
  os : s'.os = sI.os
  ag : AllBare s'.gens
structure HJ (X : Cx) (hds : List ExceptHandler) (t : HWx) : Prop where
  run : ∀ (Wout : WX) (D : Ends) (pins : List (Addr × Obj)) (a : Addr) (B : PySem.Heap) (sI : Shared) (σ : L2.St) (H : Hp) (cls : Value) (d : Option Addr) (s' : Shared), Takes X Wout → Lies X pins a cls d σ H s' B sI → t Wout D cls d σ H →
    wpAny (model X.prog X.w) X.A (handleBy (.ref a) X.env hds) (SP X pins D) X.xe s'
section
variable {X : Cx} {hds : List ExceptHandler} {t : HWx}
def hNil : HWx := fun Wout _ => Wout
theorem h_nil (hf : X.env.frame = some X.env.locals) : HJ X [] hNil := by
  refine ⟨fun Wout D pins a B sI σ H cls d s' tk ⟨I, nb, up, fl, na, os, ag⟩ h => ?_⟩
  refine wpAny_handleBy_nil ?_
  obtain ⟨_, _, _, oe, vs, T, oT, ts', he, hz, hd, h1, hr⟩ := id fl
  unfold PySem.passOn
  refine wpAny_bind (wpAny_field he hd h1 ?_)
  rw [if_neg (show ¬ ((Value.ref T == Value.none) = true) from by simp)]
  have fin : wpAny (model X.prog X.w) X.A (setFlight (.ref a) X.env.frame) (fun _ s4 => wpAny (model X.prog X.w) X.A (throw (.ref a) : Sem Flow) (SP X pins D) X.xe s4) X.xe s' := by
    rw [hf]
    refine HandSPX.setFlight_upZ fl fun h4 hh4 up4 => wpAny_throw (tk _ _ ⟨a, B, sI, pins, σ, H, cls, d, rfl, I, nb, up.trans up4, .inr (.inr hh4), na, os, ag, h⟩)
  first
    | exact wpAny_bind (wpAny_pure (wpAny_bind fin))
    | exact wpAny_bind fin
/-- except x as n: slot i is n's -/
def hAs (K : PySem.W.Frag) (c : Value) (i : Nat) (ts : TS) (r : HWx) : HWx := fun Wout D cls d σ H => ∃ b, PySem.W.exmOne K cls c = some b ∧
  (b = true → ∀ a, H a = none → ts { nx := fun σ' H' => D.nx (σ'.set i none) H', rt := D.rt, bk := fun σ' H' => D.bk (σ'.set i none) H', ct := fun σ' H' => D.ct (σ'.set i none) H' } (σ.set i (some (.ref a))) (upd H a (xcO a cls d))) ∧
  (b = false → r Wout D cls d σ H)
/-- except x: -/
def hOnly (K : PySem.W.Frag) (c : Value) (ts : TS) (r : HWx) : HWx := fun Wout D cls d σ H => ∃ b, PySem.W.exmOne K cls c = some b ∧
  (b = true → ∀ a, H a = none → ts D σ (upd H a (xcO a cls d))) ∧ (b = false → r Wout D cls d σ H)
variable {x n : Str} {c : Value} {i : Nat} {suite : List Stmt} {b₀ : Stmt} {np pos pos' : Pos} {ts : TS}
structure Landed (X : Cx) (pins : List (Addr × Obj)) (a : Addr) (cls : Value) (d : Option Addr) (σ : L2.St) (H : Hp) (s' : Shared) (B : PySem.Heap) : Prop where
  inv : Inv X pins σ H s'
  obj : ∃ oe vs, s'.heap.get? a = some oe ∧ Zc cls d oe ∧ oe.data = .fields vs
  nL : a ≠ X.env.locals
  n0 : X.s_0.heap.get? a = none
  np : ∀ p ∈ X.pn ++ pins, p.1 ≠ a
theorem Lies.landed {pins : List (Addr × Obj)} {σ : L2.St} {H : Hp} {sI s' : Shared} {B : PySem.Heap} {a : Addr} {cls : Value} {d : Option Addr} (hs : X.stack = X.env :: X.outer) (hf : X.env.frame = some X.env.locals) (hex : X.ex = []) (L : Lies X pins a cls d σ H s' B sI) : Landed X pins a cls d σ H s' B := by
  have J : Inv X pins σ H s' := L.inv.landed L.nb L.fl.1 L.up L.os L.ag
  obtain ⟨oe, vs, he, hz, hd⟩ := L.fl.there
  have hB : B.get? a = none := L.fl.2.1
  have nfr : a ∉ frs X.stack := fun hm => by
    obtain ⟨_, o', e', hnf⟩ := L.fl.2.2.1.mem hm
    rw [he] at e'; cases e'
    exact hnf _ hd
  have frE : frs X.stack = X.env.locals :: X.fs := by
    rw [hs]
    show List.filterMap (·.frame) (X.env :: X.outer) = _
    rw [List.filterMap_cons_some hf]
    rfl
  have nL : a ≠ X.env.locals := fun z => nfr (by rw [frE, z]; exact List.mem_cons_self)
  have nF : a ∉ X.fs := fun z => nfr (by rw [frE]; exact List.mem_cons_of_mem _ z)
  refine ⟨J, ⟨oe, vs, he, hz, hd⟩, nL, ?_, fun p hp => ?_⟩
  · cases q : X.s_0.heap.get? a with
    | none => rfl
    | some o =>
      obtain ⟨o', q2⟩ := L.inv.base.there a o q (by rw [hex]; exact List.not_mem_nil)
      have := L.nb a o' q2 nfr
      rw [hB] at this; cases this
  · rintro rfl
    obtain ⟨h1, _⟩ := L.inv.pin p hp
    have := L.nb _ _ h1 nfr
    rw [hB] at this; cases this
theorem Lies.step {pins : List (Addr × Obj)} {σ : L2.St} {H : Hp} {sI s' : Shared} {B h4 : PySem.Heap} {a : Addr} {cls : Value} {d : Option Addr} (L : Lies X pins a cls d σ H s' B sI) (fl4 : HandSPX.FlyingZ B X.stack a (Zc cls d) h4) (up4 : s'.heap.UpToSlots h4) : Lies X pins a cls d σ H { s' with heap := h4 } B sI :=
  ⟨L.inv, L.nb, L.up.trans up4, fl4, L.na, L.os, L.ag⟩
theorem test_ok {pins : List (Addr × Obj)} {σ : L2.St} {H : Hp} {s' : Shared} {a : Addr} (hc : Names X x c) (J : Inv X pins σ H s') {Q : Value → Shared → Prop} {E : Value → Shared → Prop} (q : Q c s') : wpAny (model X.prog X.w) (X.A.mark (some (.ref a))) (eval (.Name x np) X.env) Q E s' := by
  obtain ⟨hg, hdbg, hm | ⟨hm, hv, hnn⟩⟩ := hc
  · exact ld_glob (X := X.suite a X.pn) (inHot J a) hg hm q hdbg
  · exact ld_blt (X := X.suite a X.pn) (inHot J a) hg hm hv q hnn hdbg
theorem h_as {r : HWx} (hs : X.stack = X.env :: X.outer) (hf : X.env.frame = some X.env.locals) (hex : X.ex = []) (hN : X.N.Nodup) (hi : X.N[i]? = some n) (hln : X.env.kindOf n = some .local) (hc : Names X x c)
    (hsu : ∀ a, PSs (X.suite a X.pn) (b₀ :: suite) ts) (hr : HJ X hds r) : HJ X (.ExceptHandler (some (.Name x np)) (some n) (b₀ :: suite) pos' :: hds) (hAs X.K c i ts r) := by
  refine ⟨fun Wout D pins a B sI σ H cls d s' tk L h => ?_⟩
  obtain ⟨b, hb1, hyes, hno⟩ := h
  have G := L.landed hs hf hex
  obtain ⟨oe, vs, he, hz, hd⟩ := G.obj
  refine wpAny_handleBy_cons (codeAny_handlers_test ?_) (by intro q; cases q)
  have LT : PySem.W.Looks (model X.prog X.w) s'.heap (typeOf (.ref a)) cls := fun A Q E s k q => wpAny_typeOf_ref (k _ _ he) (by rw [hz.1]; exact q)
  refine test_ok hc G.inv ((PySem.W.exm_one (M := model X.prog X.w) G.inv.kIn LT hb1).here ?_)
  cases b with
  | true =>
    refine codeAny_handlers_suite_as (HandSPX.lands_againZ L.fl fun h4 fl4 up4 => ?_)
    have L4 := L.step fl4 up4
    have G4 := L4.landed hs hf hex
    obtain ⟨oe4, vs4, he4, hz4, hd4⟩ := G4.obj
    have S4 := inHot (track G4.inv he4 hz4 hd4 L.na G4.nL G4.n0 G4.np) a
    refine store_ok (X := X.suite a X.pn) (v := .ref a) S4 hN hi (.inl hln) rfl (fun s5 S5 => ?_) (.inr hln)
    refine wpAny_mono ((hsu a).run pins s5 _ _ _ S5 (hyes rfl a L.na)) (fun f s6 hsp => ?_) (fun _ _ z => False.elim z)
    have end_ : ∀ {σ6 : L2.St} {H6 : Hp} {Q : Shared → Prop}, Inv (X.suite a X.pn) pins σ6 H6 s6 → (∀ s7, Inv X pins (σ6.set i none) H6 s7 → Q s7) →
        wpAny (model X.prog X.w) X.A (do bindName X.env n .none; unbindBehindTheSuite X.env n pos') (fun _ s7 => Q s7) X.xe s6 := fun {σ6 H6 Q} S6 hq => gone_ok (outHot S6 G.inv.ok) hN hi hln hq
    cases f with
    | next =>
      obtain ⟨σ6, H6, S6, q6⟩ := hsp
      exact end_ S6 fun s7 J7 => ⟨_, _, J7, q6⟩
    | brk =>
      obtain ⟨σ6, H6, S6, q6⟩ := hsp
      exact end_ S6 fun s7 J7 => ⟨_, _, J7, q6⟩
    | cont =>
      obtain ⟨σ6, H6, S6, q6⟩ := hsp
      exact end_ S6 fun s7 J7 => ⟨_, _, J7, q6⟩
    | ret u =>
      obtain ⟨v6, σ6, H6, S6, r6, q6⟩ := hsp
      exact end_ S6 fun s7 J7 => ⟨_, _, _, J7, r6, q6⟩
  | false => exact hr.run Wout D pins a B sI σ H cls d s' tk L (hno rfl)
theorem h_only {r : HWx} (hs : X.stack = X.env :: X.outer) (hf : X.env.frame = some X.env.locals) (hex : X.ex = []) (hc : Names X x c)
    (hsu : ∀ a, PSs (X.suite a X.pn) (b₀ :: suite) ts) (hr : HJ X hds r) : HJ X (.ExceptHandler (some (.Name x np)) none (b₀ :: suite) pos' :: hds) (hOnly X.K c ts r) := by
  refine ⟨fun Wout D pins a B sI σ H cls d s' tk L h => ?_⟩
  obtain ⟨b, hb1, hyes, hno⟩ := h
  have G := L.landed hs hf hex
  obtain ⟨oe, vs, he, hz, hd⟩ := G.obj
  refine wpAny_handleBy_cons (codeAny_handlers_test ?_) (by intro q; cases q)
  have LT : PySem.W.Looks (model X.prog X.w) s'.heap (typeOf (.ref a)) cls := fun A Q E s k q => wpAny_typeOf_ref (k _ _ he) (by rw [hz.1]; exact q)
  refine test_ok hc G.inv ((PySem.W.exm_one (M := model X.prog X.w) G.inv.kIn LT hb1).here ?_)
  cases b with
  | true =>
    refine codeAny_handlers_suite (HandSPX.lands_againZ L.fl fun h4 fl4 up4 => ?_)
    have L4 := L.step fl4 up4
    have G4 := L4.landed hs hf hex
    obtain ⟨oe4, vs4, he4, hz4, hd4⟩ := G4.obj
    have S4 := inHot (track G4.inv he4 hz4 hd4 L.na G4.nL G4.n0 G4.np) a
    refine wpAny_mono ((hsu a).run pins _ _ _ _ S4 (hyes rfl a L.na)) (fun f s6 hsp => ?_) (fun _ _ z => False.elim z)
    cases f with
    | next =>
      obtain ⟨σ6, H6, S6, q6⟩ := hsp
      exact ⟨_, _, outHot S6 G.inv.ok, q6⟩
    | brk =>
      obtain ⟨σ6, H6, S6, q6⟩ := hsp
      exact ⟨_, _, outHot S6 G.inv.ok, q6⟩
    | cont =>
      obtain ⟨σ6, H6, S6, q6⟩ := hsp
      exact ⟨_, _, outHot S6 G.inv.ok, q6⟩
    | ret u =>
      obtain ⟨v6, σ6, H6, S6, r6, q6⟩ := hsp
      exact ⟨_, _, _, outHot S6 G.inv.ok, r6, q6⟩
  | false => exact hr.run Wout D pins a B sI σ H cls d s' tk L (hno rfl)
/-- try: body, clauses -/
theorem ps_tryH {h₀ : ExceptHandler} {body : List Stmt} {tb : WX → TS} {Wout : WX} (hs : X.stack = X.env :: X.outer) (hf : X.env.frame = some X.env.locals) (tk : Takes X Wout)
    (hb : ∀ (W : WX) (pn : List (Addr × Obj)) (xe : Value → Shared → Prop), Takes (X.tr pn xe) W → PassesOwn (model X.prog X.w) X.A X.env xe → PSs (X.tr pn xe) body (tb W)) (hh : HJ X (h₀ :: hds) t) :
    PS X (.Try body (h₀ :: hds) [] [] pos) (fun D σ H => tb (t Wout D) D σ H) := by
  refine ⟨fun pins s σ H D I h => ?_⟩
  have ok := I.ok
  have hfr : X.A.frames = some (X.env :: X.outer) := by rw [ok.frames, hs]
  refine wpAny_Try_except ?_
  refine wpAny_mono ((hb (t Wout D) (X.pn ++ pins) (fun e s₁ => wpAny (model X.prog X.w) X.A (noteFrame e X.env) (fun _ s₂ => wpAny (model X.prog X.w) X.A (setFlight e none) (fun _ s₃ =>
    wpAny (model X.prog X.w) X.A (handleBy e X.env (h₀ :: hds)) (SP X pins D) X.xe s₃) X.xe s₂) X.xe s₁) (fun u s' xx => ?_) PassesOwn.looking).run [] s σ H D (I.toTry _) h) (fun f s1 hsp => ?_) (fun e s1 he => he)
  · obtain ⟨a, B, sI, pins', σ', H', cls, d, rfl, J', nb, up, sky, na, os, ag, w⟩ := xx
    have J : Inv X pins σ' H' sI := J'.ofTry ok
    have sky' : Sky B (X.env :: X.outer) a (Zc cls d) X.env.locals s'.heap := by rw [← hs]; exact sky
    show wpAny (model X.prog X.w) X.A (noteFrame (.ref a) X.env) _ _ _
    refine Sky.land Zc.steady hfr hf sky' fun h3 fl3 up3 => ?_
    exact hh.run Wout D pins a B sI σ' H' cls d { s' with heap := h3 } tk ⟨J, nb, up.trans up3, by rw [hs]; exact fl3, na, os, ag⟩ w
  · cases f with
    | next =>
      obtain ⟨σ', H', J', q⟩ := hsp
      exact wpAny_execs_nil ⟨σ', H', J'.ofTry ok, q⟩
    | brk =>
      obtain ⟨σ', H', J', q⟩ := hsp
      exact ⟨σ', H', J'.ofTry ok, q⟩
    | cont =>
      obtain ⟨σ', H', J', q⟩ := hsp
      exact ⟨σ', H', J'.ofTry ok, q⟩
    | ret u =>
      obtain ⟨v, σ', H', J', r, q⟩ := hsp
      exact ⟨v, σ', H', J'.ofTry ok, r, q⟩
end

/-! ### the mathematics -/
def excUp (c : Nat) (fs : List (Nat × W)) (h : Heap) : Heap := match fs with
  | [] => h.new (.exc c none)
  | p :: r => (h.new (.xdt (p :: r))).new (.exc c (some h.nx))
def excN (fs : List (Nat × W)) (h : Heap) : Nat := match fs with
  | [] => h.nx
  | _ :: _ => h.nx + 1
def SR.unset (i : Nat) : SR → SR
  | .nx ls h => .nx (ls.set i none) h
  | .bk ls h => .bk (ls.set i none) h
  | .ct ls h => .ct (ls.set i none) h
  | .rt w h => .rt w h
  | _ => .bad
def SR.quiet : SR → SR
  | .exc _ _ _ _ => .bad
  | r => r
/-- a clause: whom it takes, the slot of its name, its suite -/
structure Hn where
  exm : Nat → Option Bool
  sl : Option Nat
  su : SS
def hRun : List Hn → Nat → List (Nat × W) → SS
  | [], c, fs => fun ls h => .exc c fs ls h
  | x :: r, c, fs => fun ls h => match x.exm c with
    | some true => (match x.sl with
      | some i => if i < ls.length then (x.su (ls.set i (some (.ref (excN fs h)))) (excUp c fs h)).unset i else .bad
      | none => (x.su ls (excUp c fs h)).quiet)
    | some false => hRun r c fs ls h
    | none => .bad
def sTry (body : SS) (hs : List Hn) : SS := fun ls h => match body ls h with
  | .exc c fs ls1 h1 => hRun hs c fs ls1 h1
  | r => r
def LH (K : PySem.W.Frag) (N : Nm) (hs : List Hn) : HWx := fun Wout D cls d σ H => ∃ ρ ls h c fs, LR K ρ H ls σ ∧ HR K N ρ h H ∧ cls = .ref (N.ca c) ∧ XR K N ρ H fs d ∧ OutS K N ρ H (hRun hs c fs ls h) D Wout
section
variable {K : PySem.W.Frag} {N : Nm} {ρ : List Addr} {H : Hp} {h : Heap} {c : Nat} {fs : List (Nat × W)} {d : Option Addr} {a : Addr}
theorem up_track (r : HR K N ρ h H) (x : XR K N ρ H fs d) (na : H a = none) : ∃ ρ', Ex ρ ρ' H (upd H a (xcO a (.ref (N.ca c)) d)) ∧ HR K N ρ' (excUp c fs h) (upd H a (xcO a (.ref (N.ca c)) d)) ∧ VR K ρ' (upd H a (xcO a (.ref (N.ca c)) d)) (.ref (excN fs h)) (.ref a) := by
  cases d with
  | none =>
    obtain rfl : fs = [] := x
    exact ⟨ρ ++ [a], Ex.alloc na, r.new na .exc0, .ref (r.at_new a)⟩
  | some dx =>
    obtain ⟨ne, hdx, fs', e1, e2, e3⟩ := x
    have eH : upd H dx (.xd fs') = H := by
      funext b
      unfold upd
      split
      · rename_i e; rw [e, e1]
      · rfl
    have r1 : HR K N (ρ ++ [dx]) (h.new (.xdt fs)) H := by
      have := r.adopt (p := dx) (o := .xdt fs) (O := .xd fs') hdx (by rw [eH]; exact HE.refl H) (.xdt e2 (by rw [eH]; exact e3.mono (List.prefix_append _ _) (HE.refl H)))
      rw [eH] at this
      exact this
    have e4 : excUp c fs h = (h.new (.xdt fs)).new (.exc c (some h.nx)) := by
      cases fs with
      | nil => exact (ne rfl).elim
      | cons => rfl
    have e5 : excN fs h = (h.new (.xdt fs)).nx := by
      cases fs with
      | nil => exact (ne rfl).elim
      | cons => rfl
    rw [e4, e5]
    refine ⟨ρ ++ [dx] ++ [a], ⟨(List.prefix_append _ _).trans (List.prefix_append _ _), HE.new na, fun b O q nx n => ⟨by rw [upd_ne (ne_of_none q na)]; exact q, fun m => ?_⟩⟩, r1.new na (.exc1 (pre_get (List.prefix_append _ _) (r.at_new dx))), .ref (r1.at_new a)⟩
    rcases List.mem_append.mp m with m | m
    · rcases List.mem_append.mp m with m | m
      · exact n m
      · simp at m
        subst m
        rw [e1] at q
        cases q
        exact nx _ rfl
    · simp at m
      subst m
      rw [na] at q
      cases q
end
theorem HJ.imp {X : Cx} {hds : List ExceptHandler} {t t' : HWx} (h : HJ X hds t) (i : ∀ Wout D cls d σ H, t' Wout D cls d σ H → t Wout D cls d σ H) : HJ X hds t' := ⟨fun Wout D pins a B sI σ H cls d s' tk L q => h.run Wout D pins a B sI σ H cls d s' tk L (i _ _ _ _ _ _ q)⟩
section
variable {X : Cx} {N : Nm} {Wx : WX} {hds : List ExceptHandler} {x n : Str} {cv : Value} {i : Nat} {suite body : List Stmt} {b₀ : Stmt} {np pos pos' : Pos} {exm : Nat → Option Bool} {su bodyF : SS} {r : List Hn}
theorem hl_nil (hf : X.env.frame = some X.env.locals) : HJ X [] (LH X.K N []) := (h_nil hf).imp fun Wout D cls d σ H ⟨ρ, ls, h, c, fs, l, hr, e, x, o⟩ => by
  subst e
  exact o ρ σ H d (Ex.refl _ _) l hr x
theorem hl_as (hs : X.stack = X.env :: X.outer) (hf : X.env.frame = some X.env.locals) (hex : X.ex = []) (hN : X.N.Nodup) (hi : X.N[i]? = some n) (hln : X.env.kindOf n = some .local) (hc : Names X x cv) (he : ∀ c b, exm c = some b → PySem.W.exmOne X.K (.ref (N.ca c)) cv = some b)
    (hsu : ∀ a, PSs (X.suite a X.pn) (b₀ :: suite) (LS X.K N W0 su)) (hr : HJ X hds (LH X.K N r)) : HJ X (.ExceptHandler (some (.Name x np)) (some n) (b₀ :: suite) pos' :: hds) (LH X.K N (⟨exm, some i, su⟩ :: r)) :=
  (h_as (np := np) (pos' := pos') hs hf hex hN hi hln hc hsu hr).imp fun Wout D cls d σ H ⟨ρ, ls, h, c, fs, l, hr, e, x, o⟩ => by
    subst e
    replace o : OutS X.K N ρ H (match exm c with
      | some true => if i < ls.length then (su (ls.set i (some (.ref (excN fs h)))) (excUp c fs h)).unset i else .bad
      | some false => hRun r c fs ls h
      | none => .bad) D Wout := o
    split at o
    · rename_i eb
      refine ⟨true, he c _ eb, fun _ a na => ?_, fun z => by cases z⟩
      split at o
      · rename_i il
        obtain ⟨ρ', ex, r', rv⟩ := up_track (c := c) hr x na
        refine ⟨ρ', _, _, (l.ex ex).set i rv, r', ?_⟩
        cases e2 : su (ls.set i (some (.ref (excN fs h)))) (excUp c fs h) with
        | nx ls2 h2 => rw [e2] at o; exact fun ρ2 σ2 H2 ex2 l2 r2 => o ρ2 _ H2 (ex.trans ex2) (l2.unset i) r2
        | bk ls2 h2 => rw [e2] at o; exact fun ρ2 σ2 H2 ex2 l2 r2 => o ρ2 _ H2 (ex.trans ex2) (l2.unset i) r2
        | ct ls2 h2 => rw [e2] at o; exact fun ρ2 σ2 H2 ex2 l2 r2 => o ρ2 _ H2 (ex.trans ex2) (l2.unset i) r2
        | rt w h2 => rw [e2] at o; exact fun ρ2 H2 v ex2 r2 rv => o ρ2 H2 v (ex.trans ex2) r2 rv
        | exc => rw [e2] at o; exact o.elim
        | bad => rw [e2] at o; exact o.elim
      · exact o.elim
    · rename_i eb
      exact ⟨false, he c _ eb, (fun z => by cases z), fun _ => ⟨ρ, ls, h, c, fs, l, hr, rfl, x, o⟩⟩
    · exact o.elim
theorem hl_only (hs : X.stack = X.env :: X.outer) (hf : X.env.frame = some X.env.locals) (hex : X.ex = []) (hc : Names X x cv) (he : ∀ c b, exm c = some b → PySem.W.exmOne X.K (.ref (N.ca c)) cv = some b)
    (hsu : ∀ a, PSs (X.suite a X.pn) (b₀ :: suite) (LS X.K N W0 su)) (hr : HJ X hds (LH X.K N r)) : HJ X (.ExceptHandler (some (.Name x np)) none (b₀ :: suite) pos' :: hds) (LH X.K N (⟨exm, none, su⟩ :: r)) :=
  (h_only (np := np) (pos' := pos') hs hf hex hc hsu hr).imp fun Wout D cls d σ H ⟨ρ, ls, h, c, fs, l, hr, e, x, o⟩ => by
    subst e
    replace o : OutS X.K N ρ H (match exm c with
      | some true => (su ls (excUp c fs h)).quiet
      | some false => hRun r c fs ls h
      | none => .bad) D Wout := o
    split at o
    · rename_i eb
      refine ⟨true, he c _ eb, fun _ a na => ?_, fun z => by cases z⟩
      obtain ⟨ρ', ex, r', rv⟩ := up_track (c := c) hr x na
      refine ⟨ρ', _, _, l.ex ex, r', ?_⟩
      cases e2 : su ls (excUp c fs h) with
      | nx ls2 h2 => rw [e2] at o; exact fun ρ2 σ2 H2 ex2 l2 r2 => o ρ2 _ H2 (ex.trans ex2) l2 r2
      | bk ls2 h2 => rw [e2] at o; exact fun ρ2 σ2 H2 ex2 l2 r2 => o ρ2 _ H2 (ex.trans ex2) l2 r2
      | ct ls2 h2 => rw [e2] at o; exact fun ρ2 σ2 H2 ex2 l2 r2 => o ρ2 _ H2 (ex.trans ex2) l2 r2
      | rt w h2 => rw [e2] at o; exact fun ρ2 H2 v ex2 r2 rv => o ρ2 H2 v (ex.trans ex2) r2 rv
      | exc => rw [e2] at o; exact o.elim
      | bad => rw [e2] at o; exact o.elim
    · rename_i eb
      exact ⟨false, he c _ eb, (fun z => by cases z), fun _ => ⟨ρ, ls, h, c, fs, l, hr, rfl, x, o⟩⟩
    · exact o.elim
theorem s_try {h₀ : ExceptHandler} {hs' : List Hn} (hs : X.stack = X.env :: X.outer) (hf : X.env.frame = some X.env.locals) (tk : Takes X Wx)
    (hb : ∀ (W : WX) (pn : List (Addr × Obj)) (xe : Value → Shared → Prop), Takes (X.tr pn xe) W → PassesOwn (model X.prog X.w) X.A X.env xe → PSs (X.tr pn xe) body (LS X.K N W bodyF)) (hh : HJ X (h₀ :: hds) (LH X.K N hs')) :
    PS X (.Try body (h₀ :: hds) [] [] pos) (LS X.K N Wx (sTry bodyF hs')) :=
  PS.imp (ps_tryH hs hf tk hb hh) fun D σ H h => by
    obtain ⟨ρ, ls, hp, l, hr, o⟩ := h
    refine ⟨ρ, ls, hp, l, hr, ?_⟩
    unfold sTry at o
    cases e : bodyF ls hp with
    | exc c fs ls1 h1 =>
      rw [e] at o
      exact fun ρ' σ' H' d ex l' r' xr => ⟨ρ', ls1, h1, c, fs, l', r', rfl, xr, OutS.ex ex o⟩
    | nx => rw [e] at o; exact o
    | rt => rw [e] at o; exact o
    | bk => rw [e] at o; exact o
    | ct => rw [e] at o; exact o
    | bad => rw [e] at o; exact o.elim
end
/-! ### e.f, isinstance(e, C) -/
def wXat (okc : Nat → Bool) (j : Nat) (x : W) (h : Heap) : R := match x with
  | .ref n => match h.get n with
    | some (.exc c (some m)) => if okc c = true then match h.get m with
      | some (.xdt fs) => match fGet fs j with
        | some w => .ok w h
        | none => .bad
      | _ => .bad
      else .bad
    | _ => .bad
  | _ => .bad
def eXat (okc : Nat → Bool) (j : Nat) (f : SE) : SE := eUn (wXat okc j) f
def xdB (h : Heap) : Option Nat → Bool
  | none => true
  | some m => match h.get m with
    | some (.xdt _) => true
    | _ => false
def wXis (isb : Nat → Option Bool) (x : W) (h : Heap) : R := match x with
  | .ref n => match h.get n with
    | some (.exc c m) => if xdB h m = true then match isb c with
      | some b => .ok (.bl b) h
      | none => .bad
      else .bad
    | _ => .bad
  | _ => .bad
def eXis (isb : Nat → Option Bool) (f : SE) : SE := eUn (wXis isb) f
section
variable {X : Cx} {N : Nm} {Wx : WX} {j : Nat} {x : Str} {e eC : PySem.Expr} {pos p1 : Pos} {okc : Nat → Bool} {isb : Nat → Option Bool} {f : SE} {cV : V} {cv : Value}
theorem exc_of {ρ : List Addr} {h : Heap} {H : Hp} {n c : Nat} {m : Option Nat} {a : Addr} (hr : HR X.K N ρ h H) (e : h.get n = some (.exc c m)) (q : ρ[n]? = some a) : ∃ d, H a = some (xcO a (.ref (N.ca c)) d) ∧ ((m = none ∧ d = none) ∨ ∃ k dx, m = some k ∧ d = some dx ∧ ρ[k]? = some dx) := by
  obtain ⟨O, h1, h2⟩ := hr.at e q
  cases h2 with
  | exc0 => exact ⟨none, h1, .inl ⟨rfl, rfl⟩⟩
  | exc1 z => exact ⟨_, h1, .inr ⟨_, _, rfl, rfl, z⟩⟩
theorem xdt_of {ρ : List Addr} {h : Heap} {H : Hp} {n : Nat} {fs : List (Nat × W)} {a : Addr} (hr : HR X.K N ρ h H) (e : h.get n = some (.xdt fs)) (q : ρ[n]? = some a) : ∃ fs' : List (Str × V), H a = some (.xd fs') ∧ fs'.map (·.1) = fs.map (fun f => N.an f.1) ∧ VRs X.K ρ H (fs.map (·.2)) (fs'.map (·.2)) := by
  obtain ⟨O, h1, h2⟩ := hr.at e q
  cases h2 with
  | xdt z1 z2 => exact ⟨_, h1, z1, z2⟩
theorem inst_exc {pins : List (Addr × Obj)} {σ : L2.St} {H : Hp} {s : Shared} {a D : Addr} {d : Option Addr} (I : Inv X pins σ H s) (ha : H a = some (xcO a (.ref D) d)) (hd : ∀ dd, d = some dd → ∃ fs', H dd = some (.xd fs')) : ∃ oe od, PySem.W.InstAt s.heap a oe D od ∧ (∃ vs, oe.data = .fields vs) ∧ oe.dict = d := by
  obtain ⟨oe, vs, e1, e2, e3, e4⟩ := xcO_at I.hok ha
  cases d with
  | none =>
    refine ⟨oe, none, ?_, ⟨vs, e4⟩, e3⟩
    obtain ⟨oc, od, oda, osl⟩ := oe
    dsimp only at e2 e3 e4
    subst e2 e3 e4
    exact ⟨e1, rfl, rfl, trivial⟩
  | some dd =>
    obtain ⟨fs', ed⟩ := hd dd rfl
    obtain ⟨mA, hns, hr⟩ : ObjOk X.prog X.w H s.heap dd (.xd fs') := I.hok dd _ ed
    obtain ⟨od, ho, hl⟩ := lookIn_ns hns
    exact ⟨oe, some od, ⟨e1, e2, by unfold PySem.W.notCls; rw [e4] <;> rfl, by rw [e3]; exact ho⟩, ⟨vs, e4⟩, e3⟩
theorem r_xat (hx : ∀ c, okc c = true → XfC X.K (N.ca c) ∧ PySem.W.findIn X.K (.ref (N.ca c)) (N.an j) = some none) (hj : N.an j = x) (he : PE X e (LE X.K N Wx f)) (hb : attributeBase e x X.env (eval e X.env) = eval e X.env := by rfl) :
    PE X (.Attribute e x pos) (LE X.K N Wx (eXat okc j f)) := by
  subst hj
  refine ⟨fun pins s σ H Q I h => ?_⟩
  refine attr_of hb (thn (he.run pins s σ H _ I (one_in (R := fun v H => ∃ ρ h x, HR X.K N ρ h H ∧ VR X.K ρ H x v ∧ Out X.K N ρ H (wXat okc j x h) Q fun c d H' => Wx c d σ H') h fun ρ ls h H x v l hr rx o => ⟨ρ, h, x, hr, rx, o⟩)) fun u s1 hh => ?_)
  obtain ⟨v, H1, I1, rv, ρ, h1, x, hr, rx, o⟩ := hh
  cases rx with
  | @ref n a q =>
    obtain rfl : u = Value.ref a := rv
    simp only [wXat] at o
    split at o
    · rename_i c m eg
      split at o
      · rename_i ok
        split at o
        · rename_i fs em
          split at o
          · rename_i w ew
            obtain ⟨d, h2, h3⟩ := exc_of hr eg q
            rcases h3 with ⟨z, _⟩ | ⟨k, dx, z1, rfl, z3⟩
            · cases z
            · cases z1
              obtain ⟨fs', g1, g2, g3⟩ := xdt_of hr em z3
              obtain ⟨v, lv, rv⟩ := fGet_of g2 g3 ew
              obtain ⟨T, hno⟩ := hx c ok
              obtain ⟨oe, vs, e1, e2, e3, e4⟩ := xcO_at I1.hok h2
              have hx : ObjOk X.prog X.w H1 s1.heap dx (.xd fs') := I1.hok dx _ g1
              obtain ⟨mA, hns, hrr⟩ := hx
              obtain ⟨od, ho, hl⟩ := lookIn_ns hns
              obtain ⟨u, hu, ru⟩ := RelO.some_of (v := v) (o := mA (N.an j)) (by rw [← lv]; exact hrr (N.an j))
              have J : PySem.W.InstAt s1.heap a oe (N.ca c) (some od) := ⟨e1, e2, by unfold PySem.W.notCls; rw [e4] <;> rfl, by rw [e3]; exact ho⟩
              exact HandSPX.exc_get I1.kIn J T.ga T.gg T.exC (PySem.W.findObj_own T.hdC hno rfl (by rw [hl, hu])) (handed_of ru) ⟨v, H1, I1.tok _, ru, o.val hr rv⟩
          · exact o.elim
        · exact o.elim
      · exact o.elim
    · exact o.elim
  | _ => exact o.elim
/-- isinstance(e, C) -/
def rIsT (K : PySem.W.Frag) : List V → Hp → VK → Prop := fun xs H Q => ∃ (a : Addr) (c : V) (cv : Value) (b : Bool) (D : Addr) (d : Option Addr), xs = [.ref a, c] ∧ H a = some (xcO a (.ref D) d) ∧ ExcC K D ∧ (∀ u, RelV c u → u = cv) ∧ PySem.W.kitOne K (.ref D) cv = some b ∧
  (∀ dd, d = some dd → ∃ fs', H dd = some (.xd fs')) ∧ Q (.bl b) H
theorem call_isT : CallR X (.builtin "isinstance") (rIsT X.K) := by
  intro pins s σ H xs us Q I r h
  obtain ⟨a, c, cv, b, D, d, rfl, ea, T, hcv, e, hd, q⟩ := h
  cases r with
  | cons rx rr => cases rr with
    | cons rt rr =>
      cases rr
      cases rx
      have eu := hcv _ rt
      subst eu
      obtain ⟨oe, od, J, _, _⟩ := inst_exc I ea hd
      have hcl : (PySem.W.clsIn X.K D).isSome = true := by
        obtain ⟨cd, hc, _⟩ := PySem.W.any_some T.hd
        rw [hc]; rfl
      exact PySem.W.kia_one (PySem.W.kitx_exc hcl T.hg T.hk T.hs T.ha T.hn T.ht T.hm) I.kIn J e (fun z => nomatch z) fun tk => ⟨.bl b, H, I.kept (t' := tk) fun _ _ z => z, rfl, q⟩
theorem r_xis (hb : ∀ c b, isb c = some b → ExcC X.K (N.ca c) ∧ PySem.W.kitOne X.K (.ref (N.ca c)) cv = some b) (hcv : ∀ u, RelV cV u → u = cv) (hm : X.mg "isinstance" = none)
    (he : PE X e (LE X.K N Wx f)) (hC : PE X eC (tC cV)) (hg : Gl X "isinstance" := by rfl)
    (hst : starEach [e, eC] X.env = (false, eval e X.env) :: starEach [eC] X.env := by rfl) (hst2 : starEach [eC] X.env = (false, eval eC X.env) :: starEach [] X.env := by rfl) (hpl : (backTo pos (starEach [eC] X.env)).any (·.1) = false := by rfl) :
    PE X (.Call (.Name "isinstance" p1) [e, eC] [] pos) (LE X.K N Wx (eXis isb f)) := by
  refine PE.imp (pe_callB call_isT hg hm bt_isinstance (pa_cons he (pa_cons hC pa_nil hst2) hst) (by decide) (by decide) hst hpl) fun σ H Q h => ?_
  refine one_in h fun ρ ls h H x v l hr rx o => ?_
  cases rx with
  | @ref n a q =>
    simp only [wXis] at o
    split at o
    · rename_i c m eg
      split at o
      · rename_i em
        split at o
        · rename_i b eb
          obtain ⟨T, ek⟩ := hb c b eb
          obtain ⟨d, h2, h3⟩ := exc_of hr eg q
          refine ⟨a, cV, cv, b, N.ca c, d, rfl, h2, T, hcv, ek, fun dd ed => ?_, o.val hr (.bl b)⟩
          rcases h3 with ⟨z, z2⟩ | ⟨k, dx, z1, z2, z3⟩
          · rw [z2] at ed; cases ed
          · subst z1
            rw [z2] at ed
            cases ed
            simp only [xdB] at em
            split at em
            · rename_i fs ek2
              obtain ⟨fs', g1, _⟩ := xdt_of hr ek2 z3
              exact ⟨fs', g1⟩
            · cases em
        · exact o.elim
      · exact o.elim
    · exact o.elim
  | _ => exact o.elim
end
end Ev
set_option maxRecDepth 100000
set_option maxHeartbeats 2000000
/-! EvXc: own exceptions with one field, over ValueError, LookupError, RuntimeError: raised. -/
namespace Ev
open PySem L2 PySem.Spec PyProof.Rows
/-- the built-in class below -/
inductive Bk where
  | v | l | r
def Bk.name : Bk → String
  | .v => "ValueError" | .l => "LookupError" | .r => "RuntimeError"
def Bk.nw : Bk → String
  | .v => "ValueError.__new__" | .l => "LookupError.__new__" | .r => "RuntimeError.__new__"
def Bk.ini : Bk → String
  | .v => "ValueError.__init__" | .l => "LookupError.__init__" | .r => "RuntimeError.__init__"
def Bk.tl (b : Bk) : List Value := [.type b.name, .type "Exception", .type "BaseException", .type "object"]
theorem Bk.fb (b : Bk) : ExcBaseFacts b.name b.nw b.ini b.tl := match b with
  | .v => F.excBase_ValueError | .l => F.excBase_LookupError | .r => F.excBase_RuntimeError
theorem Bk.st (b : Bk) : StoreFacts b.name b.tl "object.__setattr__" "object" := match b with
  | .v => F.store_ValueError | .l => F.store_LookupError | .r => F.store_RuntimeError
/-- what the written part says of an own class over it -/
structure OxC (K : PySem.W.Frag) (b : Bk) (C : Addr) : Prop where
  ini : PySem.W.excInitIn K C b.tl b.nw = true
  ovr : PySem.W.excOver K C b.tl = true
  hd : PySem.W.hasDictIn K C = true
  sa : PySem.W.findIn K (.ref C) "__setattr__" = some (some (.builtin "object.__setattr__"))
  exC : PySem.W.subIn K (.ref C) (.type "BaseException") = some true
  tyC : PySem.W.typeIn K (.ref C) = some (.type "type")
  kC : PySem.W.keepIn K (.ref C) = true
section
open PySem.Builtin PySem.Builtin.ObjectAttr
variable {X : Cx} {pins : List (Addr × Obj)} {σ : L2.St} {H : Hp} {s : Shared} {a C : Addr} {b : Bk} {fld : Str} {y : V} {u : Value} {Q : Unit → Shared → Prop} {E : Value → Shared → Prop} {A : Around}
/-- the base's __init__ tells nothing -/
theorem bx_init {us : List Value} {Q : Value → Shared → Prop} (T : OxC X.K b C) (I : Inv X pins σ H s) (e : H a = some (exo a C none)) (hl : us.length ≤ sizeLine) (h : ∀ s', Inv X pins σ H s' → Q .none s') : wpAny (model X.prog X.w) A (call (.builtin b.ini) (.ref a :: us)) Q E s := by
  obtain ⟨nm, N, qn, bs, bm, hdct, sn, sub, ab, col, dd, k0, k1, k2, k3, k5, hC, hT⟩ := PySem.W.excInit_of I.kIn T.ini
  obtain ⟨t1, ho⟩ := exo_at I.hok e
  obtain ⟨hp, g, dr, tk, os⟩ := s
  refine wpAny_call (PySem.HandSPX.init_base b.fb hT hC ho hl fun h' t2 k hx => ?_)
  have J := I.write (t' := tk) (x := a) (e := a) (o := exo a C none) (by rw [e]; exact True.intro) (.inl rfl) k ⟨_, hx⟩ (exo_ok hx)
  have eu : upd H a (exo a C none) = H := by
    funext z
    by_cases hz : z = a
    · rw [hz, upd_same, e]
    · rw [upd_ne hz]
  rw [eu] at J
  exact h _ J
/-- self.f = v, the first one: the dict is laid -/
theorem bx_set (T : OxC X.K b C) (I : Inv X pins σ H s) (e : H a = some (exo a C none)) (hno : PySem.W.findIn X.K (.ref C) fld = some none) (ry : RelV y u)
    (h : ∀ dx s', H dx = none → dx ≠ a → Inv X pins σ (upd (upd H dx (exd dx [(fld, y)])) a (exo a C (some dx))) s' → Q () s') : wpAny (model X.prog X.w) A (setAttr (.ref a) fld u) Q E s := by
  obtain ⟨t1, ho⟩ := exo_at I.hok e
  obtain ⟨cd, hcd, hhd⟩ := PySem.W.any_some T.hd
  obtain ⟨hp, g, dr, tk, os⟩ := s
  have II : PySem.W.InstAt hp a ({ cls := .ref C, dict := none, data := .fields #[.ref t1, .none, .none, .none, .bool false, .none] } : Obj) C none := ⟨ho, rfl, rfl, trivial⟩
  refine PySem.W.set_plain I.kIn (od := none) II T.sa ?_
  refine PySem.W.osa_openX b.st (s := ⟨hp, g, dr, _, os⟩) I.kIn II T.ovr (r := none) (by unfold PySem.W.takerIn; rw [hno] <;> rfl) fun bb => ?_
  have hcls : PySem.W.Looks (model X.prog X.w) hp (classData C) cd := PySem.W.looks_clsIn I.kIn hcd
  have hxs : a ≠ hp.objs.size := Nat.ne_of_lt (Heap.lt_size ho)
  show wpAny _ _ (storeInOwnDict (.ref a) (.ref C) _ fld u bb) _ _ _
  obtain ⟨nm, bs, mro, ns, qn, hd, sn, sb, ab, col, del⟩ := cd
  dsimp only at hhd
  subst hhd
  unfold storeInOwnDict ownDictForStores
  repeat (first | with_reducible refine PySem.HandSPX.store_in_new ?_ ?_ | with_reducible refine wpAny_loadPart_at ho ?_ | with_reducible refine hcls.at ?_ | wp_step)
  · exact ⟨_, #[], _, (Heap.get?_update_ne _ _ _ _ hxs.symm).trans (Heap.get?_push_at rfl rfl), rfl, fun e he => absurd he (by simp), fun _ => rfl⟩
  · intro h' tk' hn' hs
    have hx1 : (hp.push { cls := .type "dict", data := .dict #[] }).get? a = some _ := Heap.get?_push_of_some _ ho
    have kk : ∀ z o, z ≠ a → hp.get? z = some o → h'.get? z = some o := fun z o hz hq => (hs.2 z (Nat.ne_of_lt (Heap.lt_size hq))).trans ((Heap.get?_update_ne _ _ _ _ hz).trans (Heap.get?_push_of_some _ hq))
    have hx : h'.get? a = some ({ cls := .ref C, dict := some hp.objs.size, data := .fields #[.ref t1, .none, .none, .none, .bool false, .none] } : Obj) := (hs.2 a hxs).trans (Heap.get?_update_self _ hx1 rfl)
    have hnd : H hp.objs.size = none := I.hok.fresh (Nat.le_refl _)
    have na : ∀ {z : Addr}, H z = none → z ≠ a := fun {z} q w => by rw [w, e] at q; cases q
    have nz : ∀ {z : Addr} {o : Obj}, hp.get? z = some o → z ≠ hp.objs.size := fun {z o} q => Nat.ne_of_lt (Heap.lt_size q)
    have U : Un X.fs [] H (upd (upd H hp.objs.size (exd hp.objs.size [(fld, y)])) a (exo a C (some hp.objs.size))) hp h' := {
      keep := fun z o q n _ _ => kk z o (na n) q
      slot := fun z o q n _ _ => ⟨o.slots, kk z o (na n) q⟩
      free := fun z o q n _ => (upd_ne (na n)).trans ((upd_ne (nz q)).trans n)
      there := fun z o q _ => (Decidable.em (z = a)).elim (fun w => ⟨_, (congrArg h'.get? w).trans hx⟩) fun w => ⟨o, kk z o w q⟩
      tups := fun z xs q => (upd_ne (at_ne e q exo_tup)).trans ((upd_ne (ne_of_none q hnd)).trans q)
      frzs := fun z o v q => (upd_ne (at_ne e q exo_frz)).trans ((upd_ne (ne_of_none q hnd)).trans q)
      tbls := fun z ps q => ⟨#[], by rw [upd_ne (at_ne e q exo_tbl), upd_ne (ne_of_none q hnd), q]; simp⟩ }
    refine h hp.objs.size _ hnd (Ne.symm hxs) (I.un (t' := tk') U fun z o q => ?_)
    by_cases hz : z = a
    · subst hz
      rw [upd_same] at q; cases q
      exact exo_ok hx
    rw [upd_ne hz] at q
    by_cases hw : z = hp.objs.size
    · subst hw
      rw [upd_same] at q; cases q
      exact exd_ok hn' (relO_put (fs := []) ry fun g => True.intro)
    rw [upd_ne hw] at q
    refine (I.hok z o q).stay (fun c v hc w => kk c v ?_ w) (fun c hc => ?_) fun c xs hc => ?_
    · rcases hc with hc | hc
      · rw [hc]; exact hz
      · exact at_ne e hc exo_own
    · exact (upd_ne (at_ne e hc exo_own)).trans ((upd_ne (ne_of_none hc hnd)).trans hc)
    · exact (upd_ne (at_ne e hc exo_tup)).trans ((upd_ne (ne_of_none hc hnd)).trans hc)
end
/-! ### readings, rules -/
/-- B.__init__(self, ..) -/
def tBI (K : PySem.W.Frag) (b : Bk) (ta : TA) : TE := fun σ H Q => ta σ H fun vs H1 => ∃ (a C : Addr) (ws : List V), vs = .ref a :: ws ∧ ws.length ≤ 1000 ∧ OxC K b C ∧ H1 a = some (exo a C none) ∧ Q .non H1
/-- self.f = e -/
def tBS (K : PySem.W.Frag) (b : Bk) (f : Str) (to te : TE) : TS := fun D σ H => te σ H fun y H1 => to σ H1 fun x H2 => ∃ a C : Addr, x = .ref a ∧ OxC K b C ∧ PySem.W.findIn K (.ref C) f = some none ∧
  H2 a = some (exo a C none) ∧ ∀ dx, H2 dx = none → dx ≠ a → D.nx σ (upd (upd H2 dx (exd dx [(f, y)])) a (exo a C (some dx)))
section
variable {X : Cx} {b : Bk} {o e : PySem.Expr} {es : List PySem.Expr} {to te : TE} {ta : TA} {f x : Str} {B : Addr} {p p' p1 p2 pos : Pos}
theorem pe_bi {pl : Sem Bool} (hg : Gl X x) (hm : X.mg x = some (.ref B)) (gB : PySem.W.specialIn X.K (.ref B) "__getattribute__" = some (some (.builtin "type.__getattribute__"))) (tB : PySem.W.typeIn X.K (.ref B) = some (.type "type"))
    (rB : PySem.W.readsIn X.K B (.type "type") = true) (vB : PySem.W.findCls X.K (.ref B) (.type "type") "__init__" = some (.val (.builtin b.ini))) (ha : PA X (e :: es) ta) (hdb : (x == ("__debug__" : Str)) = false := by decide)
    (hc : eval (.Call (.Attribute (.Name x p1) "__init__" p2) (e :: es) [] pos) X.env = (do
      let ov ← eval (.Name x p1) X.env
      standAt p2.atName
      let (f, first) ← holding [ov] (getMethod ov "__init__" pl)
      callWith pos f first (backTo pos (starEach (e :: es) X.env)) (backToKw pos (keywordEach [] X.env))) := by rfl)
    (he : starEach (e :: es) X.env = (false, eval e X.env) :: starEach es X.env := by rfl) (hpl : (backTo pos (starEach es X.env)).any (·.1) = false := by rfl) :
    PE X (.Call (.Attribute (.Name x p1) "__init__" p2) (e :: es) [] pos) (tBI X.K b ta) := by
  refine ⟨fun pins s σ H Q I h => ?_⟩
  refine PySem.W.methodCall_KW (ld_glob I hg hm ?_ hdb) hc
  obtain ⟨m, fr⟩ := I.fr
  refine PySem.W.method_of_cls fr I.ok.mod.kin gB (PySem.W.cls_val fr I.ok.mod.kin tB rB vB (by cases b <;> decide +kernel) ?_)
  refine callWith_method1 (thn (ha.run pos pins _ σ H _ (I.tok _) h) fun us s1 ⟨vs, H1, I1, r1, a, C, ws, ev, hl, T, ea, q⟩ => ?_) he hpl
  subst ev
  cases r1 with
  | @cons _ u0 _ ur ra rw' =>
    obtain rfl : u0 = Value.ref a := ra
    have hlen : ur.length ≤ sizeLine := by
      rw [← Paired.length rw', sizeLine_eq]
      omega
    exact bx_init T I1 ea hlen fun s' J => ⟨.non, H1, J, rfl, q⟩
theorem ps_bs (ho : PE X o to) (he : PE X e te) (hs : swapsWith e (some (.Attribute o f p')) pos.line X.env = pure false := by rfl) : PS X (.Assign [.Attribute o f p'] e pos) (tBS X.K b f to te) := by
  refine ⟨fun pins s σ H D I h => plainObj_wpAny_Assign_Attribute (thn (he.run pins s σ H _ I h) fun v s1 ⟨y, H1, I1, r1, q1⟩ => thn (ho.run pins s1 σ H1 _ I1 q1) fun u s2 ⟨x, H2, I2, r2, a, C, ex, T, hno, ea, q⟩ => ?_) hs⟩
  subst ex
  obtain rfl : u = Value.ref a := r2
  exact bx_set T I2 ea hno r1 fun dx s' n ne J => ⟨σ, _, J, q dx n ne⟩
end
/-- what such an __init__ does -/
def spB (K : PySem.W.Frag) (b : Bk) (C : Addr) (fld : Str) : Sp := fun vs H Q E => ∃ (a : Addr) (v : V), vs = [.ref a, v] ∧ OxC K b C ∧ PySem.W.findIn K (.ref C) fld = some none ∧ H a = some (exo a C none) ∧
  ∀ dx, H dx = none → dx ≠ a → Q .non (upd (upd H dx (exd dx [(fld, v)])) a (exo a C (some dx)))
/-- an own class c with the field i, raised by its name x -/
structure XcOk (P : Program) (w : World) (K : PySem.W.Frag) (mg : Str → Option Value) (base : PySem.Heap) (N : Nm) (b : Bk) (c i : Nat) (x : Str) : Prop where
  T : OxC K b (N.ca c)
  hno : PySem.W.findIn K (.ref (N.ca c)) (N.an i) = some none
  hm : mg x = some (.ref (N.ca c))
  ini : ∃ fI fd p, PySem.W.findIn K (.ref (N.ca c)) "__init__" = some (some (.ref fI)) ∧ PySem.W.typeIn K (.ref fI) = some (.type "function") ∧ FnOk P w K mg base (L2.CX P w) 1 fI fd ["self", p] (spB K b (N.ca c) (N.an i)) ∧ Binds K fd ["self", p] []
theorem XcOk.mk' {P : Program} {w : World} {K : PySem.W.Frag} {mg : Str → Option Value} {base : PySem.Heap} {N : Nm} {b : Bk} {c i : Nat} {x q p msg : Str} {st : Stmt} {fI : Addr} (T : OxC K b (N.ca c)) (hno : PySem.W.findIn K (.ref (N.ca c)) (N.an i) = some none) (hm : mg x = some (.ref (N.ca c)))
    (M : Meth K (N.ca c) "__init__" fI) (D : FnAt K fI "__init__" q st) (S : FnScope ["self", p] ["self", p] (defScope st)) (bd : BdQ "__init__" q st ["self", p] 2 [] [(false, 0), (false, 1)])
    (hb : ∀ (cdv : Value) (A : Around) (outer : List Env) (s : Shared) (H : Hp) (E : XK), PSs (cxOf (L2.CX P w) P w K mg base ["self", p] q (defScope st) fI cdv A outer s H E) (defBody st) (tSeq (tDrop (tBI K b (tCons (tVar 0) (tCons (tC (.str msg)) tNil)))) (tSeq (tBS K b (N.an i) (tVar 0) (tVar 1)) tNext))) :
    XcOk P w K mg base N b c i x := by
  obtain ⟨fd, h⟩ := D
  refine ⟨T, hno, hm, fI, fd, p, M.at_, beq_iff_eq.mp M.fn, FunD.ok h S (fun vs H Q E ⟨a, v, e, _⟩ => by rw [e]; rfl) fun cdv A outer s H vs Q E hr ⟨a, v, e, T, hno, ea, q⟩ => ⟨_, hb cdv A outer s H E, ?_⟩, ?_⟩
  · subst e
    exact ⟨.ref a, rfl, a, N.ca c, [.str msg], rfl, by simp, T, ea, v, rfl, .ref a, rfl, a, N.ca c, rfl, T, hno, ea, fun dx n ne => q dx n ne⟩
  · refine FunD.bindsN h fun kV doc pm an cdv ct us hl => ?_
    match us, hl with
    | [u, u2], _ => exact bd kV doc pm an cdv ct [u, u2] [] rfl rfl
section
variable {X : Cx} {N : Nm} {Wx : WX} {x : Str} {b : Bk} {c i : Nat} {e : PySem.Expr} {gs : SEs} {p1 pos rpos : Pos}
/-- C(e), raised: made, let go; its dict stays -/
theorem pmk_xc (M : XcOk X.prog X.w X.K X.mg X.base N b c i x) (hr : Room 2 X.A) (tk : Takes X Wx) (ha : PA X [e] (LA X.K N Wx gs)) (hg : Gl X x := by rfl)
    (hdb : (x == ("__debug__" : Str)) = false := by decide) (he : starEach [e] X.env = (false, eval e X.env) :: starEach [] X.env := by rfl) (hpl : (backTo pos (starEach [] X.env)).any (·.1) = false := by rfl) :
    PMk X (.Call (.Name x p1) [e] [] pos) (fun σ H Q => LA X.K N Wx gs σ H fun vs H1 => ∃ v, vs = [v] ∧ ∀ dx, H1 dx = none → Q (.ref (N.ca c)) (some dx) (upd H1 dx (.xd [(N.an i, v)]))) := by
  obtain ⟨T, hno, hm, fI, fd, p, iC, tI, F1, hb⟩ := M
  intro pins s σ H Q I h
  refine wpAny_Call_Name_kw (ld_glob I hg hm ?_ hdb)
  refine PySem.W.callWith_K (h₀ := X.base) I.ok.mod.kin T.kC (thn (ha.run pos pins s σ H _ I h) fun us s1 ⟨vs, H1, I1, r1, v, ev, q1⟩ => ⟨I1.kIn, ?_⟩) he hpl
  subst ev
  obtain ⟨nm, NN, qn, bs, bm, hdct, sn, sub, ab, col, dd, k0, k1, k2, k3, k5, hC, hT⟩ := PySem.W.excInit_of I1.kIn T.ini
  show wpAny _ _ (call (.ref (N.ca c)) us) _ _ _
  obtain ⟨hp, g, dr, tk1, os⟩ := s1
  have hsz : hp.objs.size ≤ hp.objs.size + 1 := Nat.le_succ _
  have hn : H1 (hp.objs.size + 1) = none := I1.hok.fresh hsz
  have kk : ∀ z o, hp.get? z = some o → ((hp.push (PySem.W.kdv_tup us)).push (PySem.HandSPX.excO (N.ca c) hp.objs.size)).get? z = some o := fun z o q => Heap.get?_push_of_some _ (Heap.get?_push_of_some _ q)
  have hget : ((hp.push (PySem.W.kdv_tup us)).push (PySem.HandSPX.excO (N.ca c) hp.objs.size)).get? (hp.objs.size + 1) = some (PySem.HandSPX.excO (N.ca c) hp.objs.size) := by heap_get
  have I2 := I1.laid (t' := tk1) (a := hp.objs.size + 1) (o := exo (hp.objs.size + 1) (N.ca c) none) kk hsz (exo_ok hget)
  have r2 : Vals [V.ref (hp.objs.size + 1), v] (Value.ref (hp.objs.size + 1) :: us) := .cons rfl r1
  have hus : us.length = 1 := r1.length.symm
  have hl : (Value.ref (hp.objs.size + 1) :: us ++ []).length = [("self" : Str), p].length := by simp [hus]
  have sp : spB X.K b (N.ca c) (N.an i) [V.ref (hp.objs.size + 1), v] (upd H1 (hp.objs.size + 1) (exo (hp.objs.size + 1) (N.ca c) none))
      (fun w H2 => w = .non ∧ ∃ dx, H1 dx = none ∧ dx ≠ hp.objs.size + 1 ∧ H2 = upd (upd (upd H1 (hp.objs.size + 1) (exo (hp.objs.size + 1) (N.ca c) none)) dx (exd dx [(N.an i, v)])) (hp.objs.size + 1) (exo (hp.objs.size + 1) (N.ca c) (some dx))) (fun _ _ _ => False) :=
    ⟨_, v, rfl, T, hno, upd_same, fun dx nd ne => ⟨rfl, dx, by rw [upd_ne ne] at nd; exact nd, ne, rfl⟩⟩
  refine wpAny_call (PySem.HandSPX.call_own b.fb hT hC (PySem.W.looks_findIn I1.kIn iC) (fun self => PySem.W.bind_fn I1.kIn self tI) (by rw [hus, sizeLine_eq]; omega)
    (codeAny_mono (F1.run _ X.stack _ _ ⟨Value.ref (hp.objs.size + 1) :: us, []⟩ (Value.ref (hp.objs.size + 1) :: us ++ []) _ _ (fun _ _ _ => False) (hr.make (N.ca c) us []) (I2.env0.make (N.ca c) us []) (hb _ (Value.ref (hp.objs.size + 1) :: us) I2.kIn hl) (by rw [List.append_nil]; exact r2) sp) fun rr s' hq' => ?_))
  cases rr with
  | error er => exact passes_call (E := fun _ _ _ => False) tk (fun _ _ _ _ z => z.elim) pins σ _ _ er s' I2 hq'
  | ok fl =>
    cases fl with
    | ret u =>
      obtain ⟨w, H2, os2, bare2, un2, hok2, rv, ev, dx, hd1, hdne, e2⟩ := hq'
      subst ev e2
      obtain ⟨h2, g2, d2, t2, os'⟩ := s'
      have ed : upd (upd (upd H1 (hp.objs.size + 1) (exo (hp.objs.size + 1) (N.ca c) none)) dx (exd dx [(N.an i, v)])) (hp.objs.size + 1) (exo (hp.objs.size + 1) (N.ca c) (some dx)) dx = some (exd dx [(N.an i, v)]) := (upd_ne hdne).trans upd_same
      refine ⟨rv, mk_end (raises_own T.exC T.tyC) I1 hsz kk un2 hok2 os2 bare2 upd_same ed hd1 ?_⟩
      have eH : upd (del (upd (upd (upd H1 (hp.objs.size + 1) (exo (hp.objs.size + 1) (N.ca c) none)) dx (exd dx [(N.an i, v)])) (hp.objs.size + 1) (exo (hp.objs.size + 1) (N.ca c) (some dx))) (hp.objs.size + 1)) dx (.xd [(N.an i, v)]) = upd H1 dx (.xd [(N.an i, v)]) := by
        funext z
        by_cases hz : z = dx
        · rw [hz, upd_same, upd_same]
        · rw [upd_ne hz, upd_ne hz]
          by_cases hw : z = hp.objs.size + 1
          · rw [hw, del_same, hn]
          · rw [del_ne hw, upd_ne hw, upd_ne hz, upd_ne hw]
      rw [eH]
      exact q1 dx hd1
    | next => exact False.elim hq'
    | brk => exact False.elim hq'
    | cont => exact False.elim hq'
/-- raise C(e) -/
theorem s_raiseX (hc : X.calm = true) (tk : Takes X Wx) (M : XcOk X.prog X.w X.K X.mg X.base N b c i x) (hr : Room 2 X.A) (ha : PA X [e] (LA X.K N Wx gs)) (hg : Gl X x := by rfl)
    (hdb : (x == ("__debug__" : Str)) = false := by decide) (he : starEach [e] X.env = (false, eval e X.env) :: starEach [] X.env := by rfl) (hpl : (backTo pos (starEach [] X.env)).any (·.1) = false := by rfl) :
    PS X (.Raise (some (.Call (.Name x p1) [e] [] pos)) none rpos) (LS X.K N Wx (sRaise1 c i gs)) := by
  refine PS.imp (ps_raise hc tk (pmk_xc M hr tk ha hg hdb he hpl)) fun D σ H h => ?_
  obtain ⟨ρ, ls, hp, l, hr, o⟩ := h
  unfold sRaise1 at o
  refine ⟨ρ, ls, hp, l, hr, ?_⟩
  cases e1 : gs ls hp with
  | ok ws h1 =>
    rw [e1] at o
    intro ρ' H1 vs ex r rx
    match ws, rx with
    | [], _ => exact o.elim
    | [w], .cons (y := v) rv .nil =>
      refine ⟨v, rfl, fun dx nd => ?_⟩
      have ex2 : Ex ρ' ρ' H1 (upd H1 dx (.xd [(N.an i, v)])) := Ex.other nd
      exact o ρ' σ _ (some dx) (ex.trans ex2) ((l.ex ex).ex ex2) (r.other nd) ⟨by simp, fun m => r.fresh nd _ m rfl, _, upd_same, rfl, .cons (rv.ex ex2) .nil⟩
    | _ :: _ :: _, _ => exact o.elim
  | exc c' fs h1 =>
    rw [e1] at o
    exact fun ρ' H' d ex r z => o ρ' σ H' d ex (l.ex ex) r z
  | bad => rw [e1] at o; exact o.elim
end

/-! ### what the head is asked -/
section
open He
def oxcB (b : Bk) (x : Str) (K : PySem.W.Frag) : Bool := PySem.W.excInitIn K (ga K x) b.tl b.nw && (PySem.W.excOver K (ga K x) b.tl && (PySem.W.hasDictIn K (ga K x) && (decide (PySem.W.findIn K (.ref (ga K x)) "__setattr__" = some (some (.builtin "object.__setattr__"))) &&
  (decide (PySem.W.subIn K (.ref (ga K x)) (.type "BaseException") = some true) && (decide (PySem.W.typeIn K (.ref (ga K x)) = some (.type "type")) && PySem.W.keepIn K (.ref (ga K x)))))))
theorem oxc_ok {b : Bk} {x : Str} {K : PySem.W.Frag} (c : oxcB b x K = true) : OxC K b (ga K x) := by
  obtain ⟨h1, c⟩ := ba c
  obtain ⟨h2, c⟩ := ba c
  obtain ⟨h3, c⟩ := ba c
  obtain ⟨h4, c⟩ := ba c
  obtain ⟨h5, c⟩ := ba c
  obtain ⟨h6, h7⟩ := ba c
  exact ⟨h1, h2, h3, of_decide_eq_true h4, of_decide_eq_true h5, of_decide_eq_true h6, h7⟩
structure BiOk (K : PySem.W.Frag) (b : Bk) (B : Addr) : Prop where
  g : PySem.W.specialIn K (.ref B) "__getattribute__" = some (some (.builtin "type.__getattribute__"))
  t : PySem.W.typeIn K (.ref B) = some (.type "type")
  r : PySem.W.readsIn K B (.type "type") = true
  v : PySem.W.findCls K (.ref B) (.type "type") "__init__" = some (.val (.builtin b.ini))
def biB (b : Bk) (x : Str) (K : PySem.W.Frag) : Bool := decide (PySem.W.specialIn K (.ref (ga K x)) "__getattribute__" = some (some (.builtin "type.__getattribute__"))) && (decide (PySem.W.typeIn K (.ref (ga K x)) = some (.type "type")) && (PySem.W.readsIn K (ga K x) (.type "type") &&
  (match PySem.W.findCls K (.ref (ga K x)) (.type "type") "__init__" with
  | some (.val (.builtin n)) => n == b.ini
  | _ => false)))
theorem bi_ok {b : Bk} {x : Str} {K : PySem.W.Frag} (c : biB b x K = true) : BiOk K b (ga K x) := by
  obtain ⟨h1, c⟩ := ba c
  obtain ⟨h2, c⟩ := ba c
  obtain ⟨h3, c⟩ := ba c
  refine ⟨of_decide_eq_true h1, of_decide_eq_true h2, h3, ?_⟩
  split at c
  · rename_i n e
    rw [e, beq_iff_eq.mp c]
  · cases c
def xfxB (x : Str) (K : PySem.W.Frag) : Bool := xfB K (ga K x)
theorem xfx_ok {x : Str} {K : PySem.W.Frag} (c : xfxB x K = true) : XfC K (ga K x) := xfB_ok c
def xisB (x : Str) (K : PySem.W.Frag) : Bool := xfB K (ga K x) && (decide (PySem.W.findIn K (.ref (ga K x)) "__class__" = some (some (.builtin "object.__class__"))) && (decide (PySem.W.specialIn K (.builtin "object.__class__") "__get__" = some (some (.builtin "getset_descriptor.__get__"))) &&
  (decide (PySem.W.takesIn K (.builtin "object.__class__") = some true) && decide (PySem.W.mroIn K (ga K x) (.type "object") = some true))))
theorem xis_ok {x : Str} {K : PySem.W.Frag} (c : xisB x K = true) : ExcC K (ga K x) := by
  obtain ⟨h1, c⟩ := ba c
  obtain ⟨h2, c⟩ := ba c
  obtain ⟨h3, c⟩ := ba c
  obtain ⟨h4, h5⟩ := ba c
  have T := xfB_ok h1
  exact ⟨T.ga, T.gg, T.exC, T.hdC, of_decide_eq_true h2, of_decide_eq_true h3, of_decide_eq_true h4, of_decide_eq_true h5⟩
def kitTB (x : Str) (t : String) (b : Bool) (K : PySem.W.Frag) : Bool := decide (PySem.W.kitOne K (.ref (ga K x)) (.type t) = some b)
theorem kitT_ok {x : Str} {t : String} {b : Bool} {K : PySem.W.Frag} (c : kitTB x t b K = true) : PySem.W.kitOne K (.ref (ga K x)) (.type t) = some b := of_decide_eq_true c
def exmTB (x : Str) (t : String) (b : Bool) (K : PySem.W.Frag) : Bool := decide (PySem.W.exmOne K (.ref (ga K x)) (.type t) = some b)
theorem exmT_ok {x : Str} {t : String} {b : Bool} {K : PySem.W.Frag} (c : exmTB x t b K = true) : PySem.W.exmOne K (.ref (ga K x)) (.type t) = some b := of_decide_eq_true c
theorem kitC_ok {y x : Str} {b : Bool} {K : PySem.W.Frag} (c : (Fc.kitC y x b).ok K = true) : PySem.W.kitOne K (.ref (ga K y)) (.ref (ga K x)) = some b := of_decide_eq_true c
end
/-- classes by a table -/
def okX (cs : List Nat) (d : Nat) : Bool := decide (d ∈ cs)
theorem xo_nil {P : Nat → Prop} : ∀ d, okX [] d = true → P d := fun d e => by cases of_decide_eq_true e
theorem xo_cons {P : Nat → Prop} {c : Nat} {cs : List Nat} (h : P c) (r : ∀ d, okX cs d = true → P d) : ∀ d, okX (c :: cs) d = true → P d := fun d e => by
  rcases List.mem_cons.mp (of_decide_eq_true e) with z | z
  · rw [z]; exact h
  · exact r d (decide_eq_true z)
def exT : List (Nat × Bool) → Nat → Option Bool
  | [], _ => none
  | (c, b) :: r, d => if d = c then some b else exT r d
theorem xt_nil {P : Nat → Bool → Prop} : ∀ d b, exT [] d = some b → P d b := fun d b e => by cases e
theorem xt_cons {P : Nat → Bool → Prop} {c : Nat} {b : Bool} {t : List (Nat × Bool)} (h : P c b) (r : ∀ d b, exT t d = some b → P d b) : ∀ d b', exT ((c, b) :: t) d = some b' → P d b' := fun d b' e => by
  unfold exT at e
  split at e
  · rename_i z
    cases e
    rw [z]; exact h
  · exact r d b' e
/-! ### what must hold -/
section
variable {ls : Ls} {h : Heap} {P : Po} {Q : W → Heap → Prop} {E : Nat → List (Nat × W) → Heap → Prop} {body : SS} {f : SE} {okc : Nat → Bool} {isb : Nat → Option Bool} {j : Nat}
theorem to_unset {i : Nat} {r : SR} : (r.unset i).to P ↔ r.to { nx := fun ls2 h2 => P.nx (ls2.set i none) h2, bk := fun ls2 h2 => P.bk (ls2.set i none) h2, ct := fun ls2 h2 => P.ct (ls2.set i none) h2, rt := P.rt, ex := fun _ _ _ _ => False } := by
  cases r <;> rfl
theorem to_quiet {r : SR} : r.quiet.to P ↔ r.to { P with ex := fun _ _ _ _ => False } := by
  cases r <;> rfl
@[simp] theorem z_try {hs : List Hn} : (sTry body hs ls h).to P ↔ (body ls h).to { P with ex := fun c fs ls1 h1 => (hRun hs c fs ls1 h1).to P } := by
  unfold sTry
  cases body ls h <;> rfl
@[simp] theorem z_run0 {c : Nat} {fs : List (Nat × W)} : (hRun [] c fs ls h).to P ↔ P.ex c fs ls h := Iff.rfl
@[simp] theorem z_runA {exm : Nat → Option Bool} {i : Nat} {su : SS} {r : List Hn} {c : Nat} {fs : List (Nat × W)} : (hRun (⟨exm, some i, su⟩ :: r) c fs ls h).to P ↔
    (exm c = some true ∧ i < ls.length ∧ (su (ls.set i (some (.ref (excN fs h)))) (excUp c fs h)).to { nx := fun ls2 h2 => P.nx (ls2.set i none) h2, bk := fun ls2 h2 => P.bk (ls2.set i none) h2, ct := fun ls2 h2 => P.ct (ls2.set i none) h2, rt := P.rt, ex := fun _ _ _ _ => False }) ∨
    (exm c = some false ∧ (hRun r c fs ls h).to P) := by
  rw [hRun]
  simp only
  cases exm c with
  | none => simp
  | some b =>
    cases b with
    | true =>
      by_cases z : i < ls.length
      · simp only [z, if_true, true_and, to_unset]; simp
      · simp only [z, if_false, false_and, and_false, false_or]; simp
    | false => simp
@[simp] theorem z_runO {exm : Nat → Option Bool} {su : SS} {r : List Hn} {c : Nat} {fs : List (Nat × W)} : (hRun (⟨exm, none, su⟩ :: r) c fs ls h).to P ↔
    (exm c = some true ∧ (su ls (excUp c fs h)).to { P with ex := fun _ _ _ _ => False }) ∨ (exm c = some false ∧ (hRun r c fs ls h).to P) := by
  rw [hRun]
  simp only
  cases exm c with
  | none => simp
  | some b => cases b <;> simp [to_quiet]
theorem z_xat {n : Nat} : (wXat okc j (.ref n) h).to Q E ↔ ∃ c m fs w, h.get n = some (.exc c (some m)) ∧ okc c = true ∧ h.get m = some (.xdt fs) ∧ fGet fs j = some w ∧ Q w h := by
  unfold wXat
  simp only
  split
  · rename_i c m e1
    split
    · rename_i ok
      split
      · rename_i fs e2
        split
        · rename_i w e3
          constructor
          · intro q; exact ⟨c, m, fs, w, e1, ok, e2, e3, q⟩
          · rintro ⟨c', m', fs', w', a1, a2, a3, a4, q⟩
            rw [e1] at a1; cases a1
            rw [e2] at a3; cases a3
            rw [e3] at a4; cases a4
            exact q
        · rename_i e3
          constructor
          · exact False.elim
          · rintro ⟨c', m', fs', w', a1, a2, a3, a4, q⟩
            rw [e1] at a1; cases a1
            rw [e2] at a3; cases a3
            rw [e3] at a4; cases a4
      · rename_i e2
        constructor
        · exact False.elim
        · rintro ⟨c', m', fs', w', a1, a2, a3, a4, q⟩
          rw [e1] at a1; cases a1
          exact (e2 _ a3).elim
    · rename_i nk
      constructor
      · exact False.elim
      · rintro ⟨c', m', fs', w', a1, a2, a3, a4, q⟩
        rw [e1] at a1; cases a1
        exact (nk a2).elim
  · rename_i e1
    constructor
    · exact False.elim
    · rintro ⟨c', m', fs', w', a1, a2, a3, a4, q⟩
      exact (e1 _ _ a1).elim
@[simp] theorem x_xat : (eXat okc j f ls h).to Q E ↔ (f ls h).to (fun x h1 => (wXat okc j x h1).to Q E) E := by unfold eXat; rw [x_un]
theorem z_xis {n c : Nat} {m : Option Nat} (e : h.get n = some (.exc c m)) (hm : xdB h m = true) : (wXis isb (.ref n) h).to Q E ↔ ∃ b, isb c = some b ∧ Q (.bl b) h := by
  unfold wXis
  simp only [e, hm, if_true]
  cases isb c <;> simp
@[simp] theorem x_xis : (eXis isb f ls h).to Q E ↔ (f ls h).to (fun x h1 => (wXis isb x h1).to Q E) E := by unfold eXis; rw [x_un]
/-- the objects that a caught exception leaves -/
theorem excUp_one {c i : Nat} {w : W} : excUp c [(i, w)] h = (h.new (.xdt [(i, w)])).new (.exc c (some h.nx)) := rfl
theorem excN_one {i : Nat} {w : W} : excN [(i, w)] h = h.nx + 1 := rfl
end

theorem bt_ValueError : bootBuiltins "ValueError" = some (.type "ValueError") := by decide +kernel
theorem bt_LookupError : bootBuiltins "LookupError" = some (.type "LookupError") := by decide +kernel
theorem bt_RuntimeError : bootBuiltins "RuntimeError" = some (.type "RuntimeError") := by decide +kernel
/-- o.m(k=..), by keywords alone -/
theorem r_methK {X : Cx} {N : Nm} {Wx : WX} {pos apos : Pos} {o : PySem.Expr} {kws : List Keyword} {hs : SEs} {ks : List Str} {f : SE} {x : Str} {mi : Nat} {mt : Nat → Option (List W → List W → Heap → R)} {pl : Sem Bool} (hm : ∀ c G, mt c = some G → MtOk X N Wx mi 0 ks c G) (hx : N.an mi = x) (ho : PE X o (LE X.K N Wx f))
    (hkw : PK X kws (LA X.K N Wx hs)) (hall : (backToKw pos (keywordEach kws X.env)).all (·.1.isSome) = true := by rfl) (hks : (backToKw pos (keywordEach kws X.env)).filterMap (·.1) = ks := by rfl)
    (hpl : ((backTo pos (starEach [] X.env)).any (·.1) || (backToKw pos (keywordEach kws X.env)).any (·.1.isNone)) = false := by rfl)
    (ht : eval (.Call (.Attribute o x apos) [] kws pos) X.env = (do
      let ov ← eval o X.env
      standAt apos.atName
      let (f, first) ← holding [ov] (getMethod ov x pl)
      callWith pos f first (backTo pos (starEach [] X.env)) (backToKw pos (keywordEach kws X.env))) := by rfl) :
    PE X (.Call (.Attribute o x apos) [] kws pos) (LE X.K N Wx (eMeth mt mi 0 ks.length f aNil hs)) := by
  subst hx
  refine ⟨fun pins s σ H Q I h => ?_⟩
  refine PySem.W.methodCall_KW (pl := pl) (thn (ho.run pins s σ H _ I (meth_in h)) fun u s1 ⟨v, H1, I1, rv, a, c, dx, fs, G, ρ, ls, hp, j, ev, ea, lk, em, q, l, hr, o⟩ => ?_) ht
  subst ev
  obtain rfl : u = Value.ref a := rv
  obtain ⟨g, hg, cs⟩ := (hm c G em).mth
  refine getmeth_ok I1 ea (hm c G em).cls hg lk ?_
  refine PySem.W.callWith_KW0 (first := [.ref a]) (h₀ := X.base) I.ok.mod.kin hg.kp hall ?_ hpl
  have o2 := args_in l hr o
  obtain ⟨ρ0, ls0, hp0, l0, hr0, o0⟩ := o2
  refine thn (hkw.run pos pins s1 σ H1 _ I1 (o0 ρ0 H1 [] (Ex.refl _ _) hr0 .nil)) fun ws s2 ⟨zs, H2, I2, rz, ρ, h2, xs, ys, z0, z1, z2, z3, z4, z5, z6⟩ => ⟨I2.kIn, ?_⟩
  rw [hks]
  cases z2 with
  | nil => exact cs pins s2 σ H2 [.ref a] ws [.ref a] zs [.ref j] ys ρ h2 Q I2 (.cons rfl .nil) rz (.cons (.ref (pre_get z0.pre q)) .nil) z3 (by rw [← z4]; rfl) (by rw [← rz.length, ← z3.length, z5]) z1 z6

theorem SaysC.chk {fc : List Fc} {fn : List DefE} {K : PySem.W.Frag} (c : SaysC fc fn K) (i : Nat) {f : PySem.W.Frag → Bool} (h : fc[i]? = some (.chk f) := by rfl) : f K = true := SaysC.fact c i h
theorem noat2 {x f : Str} {K : PySem.W.Frag} (c : (He.Fa.noat x f).ok K = true) : PySem.W.findIn K (.ref (He.ga K x)) f = some none := He.eqO_ok c
end Ev
set_option maxRecDepth 100000
/-! EvBig: data with larger ints that may be shown and compared; methods, makings: what must hold. -/
namespace Ev
open PySem L2
open PyData (strOk)
structure DB (w n : Nat) (d : PyData) : Prop where
  lay : d.canLay0 = true
  nod : d.hasDict = false
  sh : d.showable = true
  sho : d.intsShort 400 = true
  dep : d.depth ≤ n
  wei : d.weight ≤ w
  txt : strOk d.shown = true
theorem DB.mono {w w' n n' : Nat} {d : PyData} (a : DB w n d) (h1 : w ≤ w') (h2 : n ≤ n') : DB w' n' d := { a with dep := Nat.le_trans a.dep h2, wei := Nat.le_trans a.wei h1 }
theorem DB.none : DB 0 0 .none := ⟨rfl, by simp [PyData.hasDict], by simp [PyData.showable], by simp [PyData.intsShort], by simp [PyData.depth], by simp [PyData.weight], by decide +kernel⟩
theorem DB.bool (b : Bool) : DB 0 0 (.bool b) := ⟨rfl, by simp [PyData.hasDict], by simp [PyData.showable], by simp [PyData.intsShort], by simp [PyData.depth], by simp [PyData.weight], by cases b <;> decide +kernel⟩
theorem log2_big {m : Nat} (h : m < 10 ^ 300) : m.log2 < 1000 := by
  by_cases z : m = 0
  · rw [z]; decide
  · have e : (10 : Nat) ^ 300 < 2 ^ 1000 := by decide +kernel
    exact (Nat.log2_lt z).mpr (Nat.lt_trans h e)
theorem DB.int {i : Int} (h : i.natAbs < 10 ^ 300) : DB 1000 0 (.int i) := by
  have l2 := log2_big h
  have l3 : (PyData.shown (.int i)).length ≤ 400 := by
    have e := int_text_length_le10 (k := 300) (by decide) h
    show (Str.ofString (toString i)).length ≤ 400
    rw [ofString_length]
    exact Nat.le_trans e (by decide)
  refine ⟨rfl, by simp [PyData.hasDict], by simp [PyData.showable]; omega, by simpa [PyData.intsShort] using l3, by simp [PyData.depth], ?_, strOk_ofString _⟩
  simp only [PyData.weight]
  split <;> omega
theorem DB.intw {i : Int} (k : Nat) (h : i.natAbs < 2 ^ k) (hk : k ≤ 990 := by decide) : DB k 0 (.int i) := by
  have hb : i.natAbs < 10 ^ 300 := Nat.lt_of_lt_of_le h (Nat.le_trans (Nat.pow_le_pow_right (by decide) hk) (by decide +kernel))
  refine { DB.int hb with wei := ?_ }
  simp only [PyData.weight]
  split
  · exact Nat.zero_le _
  · rename_i z
    have z2 : i.natAbs ≠ 0 := fun e => z (by have : i = 0 := by omega
                                             rw [this]; rfl)
    exact (Nat.log2_lt z2).mpr h
theorem DB.str {s : Str} (h1 : strOk s = true) (h2 : strOk (reprText s) = true) : DB s.cps.size 0 (.str s) := ⟨by simpa [PyData.canLay0] using h1, by simp [PyData.hasDict], by simp [PyData.showable], by simp [PyData.intsShort], by simp [PyData.depth], by simp [PyData.weight], h2⟩
section
variable {w n : Nat}
theorem DB.all : ∀ {ds : List PyData}, (∀ d ∈ ds, DB w n d) → PyData.canLayAll0 ds = true ∧ PyData.hasDictAll ds = false ∧ PyData.showableAll ds = true ∧ PyData.intsShortAll 400 ds = true ∧ PyData.depthAll ds ≤ n ∧ PyData.weightAll ds ≤ ds.length * (w + 1) ∧ ∀ t ∈ PyData.shownAll ds, strOk t = true
  | [], _ => by simp [PyData.canLayAll0, PyData.hasDictAll, PyData.showableAll, PyData.intsShortAll, PyData.depthAll, PyData.weightAll, PyData.shownAll]
  | d :: r, h => by
    have a := h d (by simp)
    obtain ⟨h1, h2, h3, h4, h5, h6, h7⟩ := DB.all (ds := r) fun x m => h x (List.mem_cons_of_mem _ m)
    refine ⟨by simp [PyData.canLayAll0, a.lay, h1], by simp [PyData.hasDictAll, a.nod, h2], by simp [PyData.showableAll, a.sh, h3], by simp [PyData.intsShortAll, a.sho, h4], ?_, ?_, ?_⟩
    · simp only [PyData.depthAll]; have := a.dep; omega
    · simp only [PyData.weightAll, List.length_cons, Nat.add_mul, Nat.one_mul]
      have := a.wei
      omega
    · intro t m
      simp only [PyData.shownAll, List.mem_cons] at m
      rcases m with rfl | m
      · exact a.txt
      · exact h7 t m
theorem DB.tuple {ds : List PyData} (h : ∀ d ∈ ds, DB w n d) : DB (ds.length * (w + 1)) (n + 1) (.tuple ds) := by
  obtain ⟨h1, h2, h3, h4, h5, h6, h7⟩ := DB.all h
  exact ⟨by simp only [PyData.canLay0, h1], by simp only [PyData.hasDict, h2], by simp only [PyData.showable, h3], by simp only [PyData.intsShort, h4], by simp only [PyData.depth]; omega, by simp only [PyData.weight]; exact h6, by simp only [PyData.shown]; exact strOk_tuple h7⟩
theorem DB.list {ds : List PyData} (h : ∀ d ∈ ds, DB w n d) : DB (ds.length * (w + 1)) (n + 1) (.list ds) := by
  obtain ⟨h1, h2, h3, h4, h5, h6, h7⟩ := DB.all h
  exact ⟨by simp only [PyData.canLay0, h1], by simp only [PyData.hasDict, h2], by simp only [PyData.showable, h3], by simp only [PyData.intsShort, h4], by simp only [PyData.depth]; omega, by simp only [PyData.weight]; exact h6, by simp only [PyData.shown]; exact strOk_list h7⟩
theorem DB.fits {d : PyData} (a : DB w n d) (hw : w ≤ 2 ^ 15) : d.shown.length ≤ sizeLine := by
  have h := PyData.shown_le 400 (by decide) d (PyData.leavesShort_of_canLay0 400 d a.lay a.sho)
  have := a.wei
  rw [sizeLine_eq]
  have h2 : (400 + 2) * d.weight ≤ 402 * 2 ^ 15 := Nat.mul_le_mul (by decide) (by omega)
  omega
theorem DB.shaped {d : PyData} (a : DB w n d) (hn : n ≤ 60) : SeqAt.shaped d = true := by
  have := a.dep
  simp only [SeqAt.shaped, a.lay, Bool.true_and, decide_eq_true_eq]
  omega
end
section
variable {h : Heap} {Q : W → Heap → Prop} {E : Nat → List (Nat × W) → Heap → Prop} {w n : Nat}
theorem reprB_to {v : W} {d : PyData} (hv : (∃ k, v = .ref k) ∨ (∃ xs, v = .tup xs) ∨ ∃ xs, v = .fl xs) (e : toD h 60 v = some d) (a : DB w n d) (hw : w ≤ 2 ^ 15 := by decide) (hn : n ≤ 60 := by decide) (q : Q (.str d.shown) h) : (bRepr [v] h).to Q E := by
  have c : d.hasDict = false ∧ d.showable = true ∧ d.depth ≤ 60 ∧ d.shown.length ≤ sizeLine := ⟨a.nod, a.sh, Nat.le_trans a.dep hn, a.fits hw⟩
  have : bRepr [v] h = .ok (.str d.shown) h := by
    rcases hv with ⟨k, rfl⟩ | ⟨xs, rfl⟩ | ⟨xs, rfl⟩ <;> (simp only [bRepr, e]; rw [if_pos c])
  rw [this]; exact q
variable {ls : Ls}
/-- o.m(..): one class has it -/
@[simp] theorem x_meth {c mi n m : Nat} {G : List W → List W → Heap → R} {f : SE} {gs hs : SEs} : (eMeth (onlyC c G) mi n m f gs hs ls h).to Q E ↔ (f ls h).to (fun x h0 => ∃ j fs, x = .ref j ∧ h0.get j = some (.ins c fs) ∧ fGet fs mi = none ∧
    (gs ls h0).to (fun xs h1 => (hs ls h1).to (fun ys h2 => (xs.length = n ∧ ys.length = m) ∧ (G (.ref j :: xs) ys h2).to Q E) E) E) E := by
  unfold eMeth
  rw [to_bind]
  cases f ls h with
  | ok x h0 =>
    simp only [to_ok]
    cases x with
    | ref j =>
      simp only
      cases e : h0.get j with
      | none => simp [e]
      | some o =>
        cases o with
        | ins d fs =>
          simp only [onlyC]
          by_cases z : d = c
          · subst z
            by_cases y : fGet fs mi = none
            · simp only [y, if_true, tos_bind, to_ifb]
              constructor
              · intro q; exact ⟨j, fs, rfl, e, y, q⟩
              · rintro ⟨j', fs', e1, e2, _, q⟩
                cases e1
                exact q
            · simp only [y, if_true, if_false, to_bad, false_iff]
              rintro ⟨j', fs', e1, e2, e3, q⟩
              cases e1
              rw [e] at e2
              cases e2
              exact y e3
          · simp only [z, if_false, to_bad, false_iff]
            rintro ⟨j', fs', e1, e2, e3, q⟩
            cases e1
            rw [e] at e2
            cases e2
            exact z rfl
        | _ =>
          simp only [to_bad, false_iff]
          rintro ⟨j', fs', e1, e2, e3, q⟩
          cases e1
          rw [e] at e2
          cases e2
    | _ => simp
  | exc => rfl
  | bad => rfl
/-- C(..) -/
theorem mk_to' {c : Nat} {F : List W → Heap → R} {gW : List W → List W → List W} {xs ys : List W} : (mkObj c F gW xs ys h).to Q E ↔ (F (gW (.ref h.nx :: xs) ys) (h.new (.ins c []))).to (fun w h' => w = .non ∧ Q (.ref h.nx) h') E := by
  unfold mkObj
  rw [to_bind]
  cases F (gW (.ref h.nx :: xs) ys) (h.new (.ins c [])) with
  | ok w h1 => cases w <;> simp
  | exc => rfl
  | bad => rfl
theorem o_pop0 {n : Nat} : (mPop (.ref n) [] h).to Q E ↔ ∃ xs w, h.get n = some (.lst xs) ∧ xs[xs.length - 1]? = some w ∧ Q w (h.put n (.lst xs.dropLast)) := by
  show R.to (match h.get n with
    | some (.lst xs) => match xs[xs.length - 1]? with
      | some w => .ok w (h.put n (.lst xs.dropLast))
      | none => .bad
    | _ => .bad) Q E ↔ _
  split
  · rename_i xs e
    split
    · rename_i w e2
      constructor
      · intro q; exact ⟨xs, w, e, e2, q⟩
      · rintro ⟨xs', w', e', e2', q⟩
        rw [e] at e'; cases e'
        rw [e2] at e2'; cases e2'
        exact q
    · rename_i e2
      constructor
      · exact False.elim
      · rintro ⟨xs', w', e', e2', q⟩
        rw [e] at e'; cases e'
        rw [e2] at e2'; cases e2'
  · rename_i n1
    constructor
    · exact False.elim
    · rintro ⟨xs, w, e, _⟩; exact (n1 xs e).elim
theorem exc_obj {c i : Nat} {w : W} : (excUp c [(i, w)] h).get (excN [(i, w)] h) = some (.exc c (some h.nx)) := by
  rw [excUp_one, excN_one]; simp [Heap.new_get]
theorem exc_xdt {c i : Nat} {w : W} : (excUp c [(i, w)] h).get h.nx = some (.xdt [(i, w)]) := by
  rw [excUp_one]; simp [Heap.new_get]
theorem exc_kp {c i : Nat} {w : W} {S : List Nat} : Kp S h (excUp c [(i, w)] h) := (Kp.new S h _).trans (Kp.new S _ _)
@[simp] theorem z_xat1 {okc : Nat → Bool} {c i : Nat} {w : W} : (wXat okc i (.ref (excN [(i, w)] h)) (excUp c [(i, w)] h)).to Q E ↔ okc c = true ∧ Q w (excUp c [(i, w)] h) := by
  rw [z_xat]
  constructor
  · rintro ⟨c', m, fs, w', e1, ok, e2, e3, q⟩
    rw [exc_obj] at e1
    cases e1
    rw [exc_xdt] at e2
    cases e2
    simp [fGet] at e3
    subst e3
    exact ⟨ok, q⟩
  · rintro ⟨ok, q⟩
    exact ⟨c, h.nx, _, w, exc_obj, ok, exc_xdt, by simp [fGet], q⟩
@[simp] theorem z_xis1 {isb : Nat → Option Bool} {c i : Nat} {w : W} : (wXis isb (.ref (excN [(i, w)] h)) (excUp c [(i, w)] h)).to Q E ↔ ∃ b, isb c = some b ∧ Q (.bl b) (excUp c [(i, w)] h) :=
  z_xis exc_obj (by simp [xdB, exc_xdt])
end
end Ev
set_option maxRecDepth 100000
namespace K47
open PySem L2 Ev
abbrev Prog : Program := PySem.Challenge.pw_exitstacks_k47_entry_stacks
def top (i : Nat) : Stmt := Prog.main.body.getD i (.Pass ⟨0, 0, 0, 0⟩)
def nm (K : PySem.W.Frag) : Nm := ⟨fun i => He.ga K ((["Fault", "KindTree", "Chain", "EntryStack", "BadNumber", "NoPlace"] : List Str).getD i ""), anOf ((["s1_kind", "s1_label", "s1_number", "s1_context", "s1_cause", "s1_hides", "kind", "label", "number", "context", "cause", "hides", "s1_parents", "kinds", "is_known", "s1_need", "way_up", "is_below", "common", "fits"] : List Str) ++ (["all_below", "s1_faults", "s1_ways", "s1_repeat", "faults", "ways", "repeat", "value", "index", "path", "line", "name", "count", "limit", "reason", "moved", "add", "numbers", "words", "s5_entries"] : List Str) ++ (["size", "take_last"] : List Str)), anOf_inj (by decide +kernel) (by decide +kernel)⟩
structure Gs (w : World) (K : PySem.W.Frag) (mg : Str → Option Value) : Prop where
  m__law_begun : mg "_law_begun" = some (.ref (He.ga K "_law_begun"))
  m__law_is_so : mg "_law_is_so" = some (.ref (He.ga K "_law_is_so"))
  m__law_next : mg "_law_next" = some (.ref (He.ga K "_law_next"))
  m__law_leaver : mg "_law_leaver" = some (.ref (He.ga K "_law_leaver"))
  m__law_refused : mg "_law_refused" = some (.ref (He.ga K "_law_refused"))
  m__law_taken : mg "_law_taken" = some (.ref (He.ga K "_law_taken"))
  m_law : mg "law" = some (.ref (He.ga K "law"))
  n_ValueError : mg "ValueError" = none
  n_bool : mg "bool" = none
  n_enumerate : mg "enumerate" = none
  n_int : mg "int" = none
  n_isinstance : mg "isinstance" = none
  n_len : mg "len" = none
  n_max : mg "max" = none
  n_min : mg "min" = none
  n_range : mg "range" = none
  n_repr : mg "repr" = none
  n_tuple : mg "tuple" = none
  bi_Absent : BiOk K .l (He.ga K "Absent")
  bi_ModelError : BiOk K .v (He.ga K "ModelError")
  cl_EntryStack : Cls K (He.ga K "EntryStack")
  ex_BadNumber_BadNumber : PySem.W.exmOne K (.ref (He.ga K "BadNumber")) (.ref (He.ga K "BadNumber")) = some true
  ex_BadNumber_NoPlace : PySem.W.exmOne K (.ref (He.ga K "BadNumber")) (.ref (He.ga K "NoPlace")) = some false
  ex_NoPlace_BadNumber : PySem.W.exmOne K (.ref (He.ga K "NoPlace")) (.ref (He.ga K "BadNumber")) = some false
  ex_NoPlace_NoPlace : PySem.W.exmOne K (.ref (He.ga K "NoPlace")) (.ref (He.ga K "NoPlace")) = some true
  kx_BadNumber_ValueError : PySem.W.kitOne K (.ref (He.ga K "BadNumber")) (.type "ValueError") = some true
  kx_NoPlace_ValueError : PySem.W.kitOne K (.ref (He.ga K "NoPlace")) (.type "ValueError") = some false
  m_Absent : mg "Absent" = some (.ref (He.ga K "Absent"))
  m_BadNumber : mg "BadNumber" = some (.ref (He.ga K "BadNumber"))
  m_EntryStack : mg "EntryStack" = some (.ref (He.ga K "EntryStack"))
  m_ModelError : mg "ModelError" = some (.ref (He.ga K "ModelError"))
  m_NoPlace : mg "NoPlace" = some (.ref (He.ga K "NoPlace"))
  me_BadNumber___init__ : Meth K (He.ga K "BadNumber") "__init__" (He.ma K (He.ga K "BadNumber") "__init__")
  me_EntryStack_add : Meth K (He.ga K "EntryStack") "add" (He.ma K (He.ga K "EntryStack") "add")
  me_EntryStack_moved : Meth K (He.ga K "EntryStack") "moved" (He.ma K (He.ga K "EntryStack") "moved")
  me_EntryStack_take_last : Meth K (He.ga K "EntryStack") "take_last" (He.ma K (He.ga K "EntryStack") "take_last")
  me_NoPlace___init__ : Meth K (He.ga K "NoPlace") "__init__" (He.ma K (He.ga K "NoPlace") "__init__")
  mk_EntryStack : Mk K (He.ga K "EntryStack") (He.ma K (He.ga K "EntryStack") "__init__")
  na_EntryStack_s5_entries : NoAttr K (He.ga K "EntryStack") "s5_entries"
  no_BadNumber_value : PySem.W.findIn K (.ref (He.ga K "BadNumber")) "value" = some none
  no_NoPlace_index : PySem.W.findIn K (.ref (He.ga K "NoPlace")) "index" = some none
  ox_BadNumber : OxC K .v (He.ga K "BadNumber")
  ox_NoPlace : OxC K .l (He.ga K "NoPlace")
  pr_EntryStack_numbers : PropOf K (He.ga K "EntryStack") "numbers" (pad K (He.ga K "EntryStack") "numbers") (gad K (pad K (He.ga K "EntryStack") "numbers"))
  pr_EntryStack_size : PropOf K (He.ga K "EntryStack") "size" (pad K (He.ga K "EntryStack") "size") (gad K (pad K (He.ga K "EntryStack") "size"))
  pr_EntryStack_words : PropOf K (He.ga K "EntryStack") "words" (pad K (He.ga K "EntryStack") "words") (gad K (pad K (He.ga K "EntryStack") "words"))
  xf_BadNumber : XfC K (He.ga K "BadNumber")
  xf_NoPlace : XfC K (He.ga K "NoPlace")
  xis_BadNumber : ExcC K (He.ga K "BadNumber")
  xis_NoPlace : ExcC K (He.ga K "NoPlace")
  d_EntryStack___init__ : FnAt K (He.ma K (He.ga K "EntryStack") "__init__") "__init__" "EntryStack.__init__" (inClass (top 6) 0)
  d_EntryStack_add : FnAt K (He.ma K (He.ga K "EntryStack") "add") "add" "EntryStack.add" (inClass (top 6) 4)
  d_EntryStack_moved : FnAt K (He.ma K (He.ga K "EntryStack") "moved") "moved" "EntryStack.moved" (inClass (top 6) 6)
  d_EntryStack_numbers : FnAt K (gad K (pad K (He.ga K "EntryStack") "numbers")) "numbers" "EntryStack.numbers" (inClass (top 6) 2)
  d_EntryStack_words : FnAt K (gad K (pad K (He.ga K "EntryStack") "words")) "words" "EntryStack.words" (inClass (top 6) 3)
  d__law_begun : FnAt K (He.ga K "_law_begun") "_law_begun" "_law_begun" (top 8)
  d_EntryStack_size : FnAt K (gad K (pad K (He.ga K "EntryStack") "size")) "size" "EntryStack.size" (inClass (top 6) 1)
  d__law_is_so : FnAt K (He.ga K "_law_is_so") "_law_is_so" "_law_is_so" (top 13)
  d__law_next : FnAt K (He.ga K "_law_next") "_law_next" "_law_next" (top 9)
  d__law_leaver : FnAt K (He.ga K "_law_leaver") "_law_leaver" "_law_leaver" (top 12)
  d__law_refused : FnAt K (He.ga K "_law_refused") "_law_refused" "_law_refused" (top 10)
  d_EntryStack_take_last : FnAt K (He.ma K (He.ga K "EntryStack") "take_last") "take_last" "EntryStack.take_last" (inClass (top 6) 5)
  d__law_taken : FnAt K (He.ga K "_law_taken") "_law_taken" "_law_taken" (top 11)
  d_law : FnAt K (He.ga K "law") "law" "law" (top 14)
  dx_BadNumber : FnAt K (He.ma K (He.ga K "BadNumber") "__init__") "__init__" "BadNumber.__init__" (inClass (top 2) 0)
  dx_NoPlace : FnAt K (He.ma K (He.ga K "NoPlace") "__init__") "__init__" "NoPlace.__init__" (inClass (top 4) 0)
def facts0 : List Fc := [.fa (.glo "_law_begun"), .fa (.glo "_law_is_so"), .fa (.glo "_law_next"), .fa (.glo "_law_leaver"), .fa (.glo "_law_refused"), .fa (.glo "_law_taken"), .fa (.glo "law"), .fa (.free "ValueError"), .fa (.free "bool"), .fa (.free "enumerate"), .fa (.free "int"), .fa (.free "isinstance"), .fa (.free "len"), .fa (.free "max"), .fa (.free "min"), .fa (.free "range"), .fa (.free "repr"), .fa (.free "tuple"), .chk (biB .l "Absent"), .chk (biB .v "ModelError"), .fa (.cls "EntryStack"), .fa (.exm "BadNumber" "BadNumber" true), .fa (.exm "BadNumber" "NoPlace" false), .fa (.exm "NoPlace" "BadNumber" false), .fa (.exm "NoPlace" "NoPlace" true), .chk (kitTB "BadNumber" "ValueError" true), .chk (kitTB "NoPlace" "ValueError" false), .fa (.glo "Absent"), .fa (.glo "BadNumber"), .fa (.glo "EntryStack")]
def facts1 : List Fc := [.fa (.glo "ModelError"), .fa (.glo "NoPlace"), .fa (.meth "BadNumber" "__init__"), .fa (.meth "EntryStack" "add"), .fa (.meth "EntryStack" "moved"), .fa (.meth "EntryStack" "take_last"), .fa (.meth "NoPlace" "__init__"), .fa (.mkr "EntryStack"), .fa (.noat "EntryStack" "s5_entries"), .fa (.noat "BadNumber" "value"), .fa (.noat "NoPlace" "index"), .chk (oxcB .v "BadNumber"), .chk (oxcB .l "NoPlace"), .prop "EntryStack" "numbers", .prop "EntryStack" "size", .prop "EntryStack" "words", .chk (xfxB "BadNumber"), .chk (xfxB "NoPlace"), .chk (xisB "BadNumber"), .chk (xisB "NoPlace")]
def facts : List Fc := facts0 ++ facts1
def fns : List DefE := [⟨fun K => He.ma K (He.ga K "EntryStack") "__init__", "__init__", "EntryStack.__init__", (inClass (top 6) 0)⟩,
  ⟨fun K => He.ma K (He.ga K "EntryStack") "add", "add", "EntryStack.add", (inClass (top 6) 4)⟩,
  ⟨fun K => He.ma K (He.ga K "EntryStack") "moved", "moved", "EntryStack.moved", (inClass (top 6) 6)⟩,
  ⟨fun K => gad K (pad K (He.ga K "EntryStack") "numbers"), "numbers", "EntryStack.numbers", (inClass (top 6) 2)⟩,
  ⟨fun K => gad K (pad K (He.ga K "EntryStack") "words"), "words", "EntryStack.words", (inClass (top 6) 3)⟩,
  ⟨fun K => He.ga K "_law_begun", "_law_begun", "_law_begun", (top 8)⟩,
  ⟨fun K => gad K (pad K (He.ga K "EntryStack") "size"), "size", "EntryStack.size", (inClass (top 6) 1)⟩,
  ⟨fun K => He.ga K "_law_is_so", "_law_is_so", "_law_is_so", (top 13)⟩,
  ⟨fun K => He.ga K "_law_next", "_law_next", "_law_next", (top 9)⟩,
  ⟨fun K => He.ga K "_law_leaver", "_law_leaver", "_law_leaver", (top 12)⟩,
  ⟨fun K => He.ga K "_law_refused", "_law_refused", "_law_refused", (top 10)⟩,
  ⟨fun K => He.ma K (He.ga K "EntryStack") "take_last", "take_last", "EntryStack.take_last", (inClass (top 6) 5)⟩,
  ⟨fun K => He.ga K "_law_taken", "_law_taken", "_law_taken", (top 11)⟩,
  ⟨fun K => He.ga K "law", "law", "law", (top 14)⟩,
  ⟨fun K => He.ma K (He.ga K "BadNumber") "__init__", "__init__", "BadNumber.__init__", (inClass (top 2) 0)⟩,
  ⟨fun K => He.ma K (He.ga K "NoPlace") "__init__", "__init__", "NoPlace.__init__", (inClass (top 4) 0)⟩]
def tabs : List TabW := []
theorem gs_of {w : World} {K : PySem.W.Frag} {mg : Str → Option Value} {h : PySem.Heap} (X : K.In h) (Gn : h.Ns mainGlobals mg) (c0 : SaysT facts fns tabs w K) (c : SaysC facts fns K) : Gs w K mg where
  m__law_begun := He.glo_ok X Gn (c.fa 0)
  m__law_is_so := He.glo_ok X Gn (c.fa 1)
  m__law_next := He.glo_ok X Gn (c.fa 2)
  m__law_leaver := He.glo_ok X Gn (c.fa 3)
  m__law_refused := He.glo_ok X Gn (c.fa 4)
  m__law_taken := He.glo_ok X Gn (c.fa 5)
  m_law := He.glo_ok X Gn (c.fa 6)
  n_ValueError := He.free_ok X Gn (c.fa 7)
  n_bool := He.free_ok X Gn (c.fa 8)
  n_enumerate := He.free_ok X Gn (c.fa 9)
  n_int := He.free_ok X Gn (c.fa 10)
  n_isinstance := He.free_ok X Gn (c.fa 11)
  n_len := He.free_ok X Gn (c.fa 12)
  n_max := He.free_ok X Gn (c.fa 13)
  n_min := He.free_ok X Gn (c.fa 14)
  n_range := He.free_ok X Gn (c.fa 15)
  n_repr := He.free_ok X Gn (c.fa 16)
  n_tuple := He.free_ok X Gn (c.fa 17)
  bi_Absent := bi_ok (c.chk 18)
  bi_ModelError := bi_ok (c.chk 19)
  cl_EntryStack := He.cls_ok (c.fa 20)
  ex_BadNumber_BadNumber := He.exm_ok (c.fa 21)
  ex_BadNumber_NoPlace := He.exm_ok (c.fa 22)
  ex_NoPlace_BadNumber := He.exm_ok (c.fa 23)
  ex_NoPlace_NoPlace := He.exm_ok (c.fa 24)
  kx_BadNumber_ValueError := kitT_ok (c.chk 25)
  kx_NoPlace_ValueError := kitT_ok (c.chk 26)
  m_Absent := He.glo_ok X Gn (c.fa 27)
  m_BadNumber := He.glo_ok X Gn (c.fa 28)
  m_EntryStack := He.glo_ok X Gn (c.fa 29)
  m_ModelError := He.glo_ok X Gn (c.fa 30)
  m_NoPlace := He.glo_ok X Gn (c.fa 31)
  me_BadNumber___init__ := He.meth_ok (c.fa 32)
  me_EntryStack_add := He.meth_ok (c.fa 33)
  me_EntryStack_moved := He.meth_ok (c.fa 34)
  me_EntryStack_take_last := He.meth_ok (c.fa 35)
  me_NoPlace___init__ := He.meth_ok (c.fa 36)
  mk_EntryStack := He.mkr_ok (c.fa 37)
  na_EntryStack_s5_entries := He.noat_ok (c.fa 38)
  no_BadNumber_value := noat2 (c.fa 39)
  no_NoPlace_index := noat2 (c.fa 40)
  ox_BadNumber := oxc_ok (c.chk 41)
  ox_NoPlace := oxc_ok (c.chk 42)
  pr_EntryStack_numbers := prop_ok (c.fact 43)
  pr_EntryStack_size := prop_ok (c.fact 44)
  pr_EntryStack_words := prop_ok (c.fact 45)
  xf_BadNumber := xfx_ok (c.chk 46)
  xf_NoPlace := xfx_ok (c.chk 47)
  xis_BadNumber := xis_ok (c.chk 48)
  xis_NoPlace := xis_ok (c.chk 49)
  d_EntryStack___init__ := c.def_ 0
  d_EntryStack_add := c.def_ 1
  d_EntryStack_moved := c.def_ 2
  d_EntryStack_numbers := c.def_ 3
  d_EntryStack_words := c.def_ 4
  d__law_begun := c.def_ 5
  d_EntryStack_size := c.def_ 6
  d__law_is_so := c.def_ 7
  d__law_next := c.def_ 8
  d__law_leaver := c.def_ 9
  d__law_refused := c.def_ 10
  d_EntryStack_take_last := c.def_ 11
  d__law_taken := c.def_ 12
  d_law := c.def_ 13
  dx_BadNumber := c.def_ 14
  dx_NoPlace := c.def_ 15
theorem bd_EntryStack___init___1 : BdQ "__init__" "EntryStack.__init__" (inClass (top 6) 0) ["self"] 1 [] [(false, 0)] := fun _ _ _ _ _ _ us ws h1 h2 => match us, ws, h1, h2 with | [_], [], _, _ => rfl
theorem bd_EntryStack_add_1_leaver_number : BdQ "add" "EntryStack.add" (inClass (top 6) 4) ["self", "number", "leaver"] 1 ["leaver", "number"] [(false, 0), (true, 1), (true, 0)] := fun _ _ _ _ _ _ us ws h1 h2 => match us, ws, h1, h2 with | [_], [_, _], _, _ => rfl
theorem bd_EntryStack_add_3 : BdQ "add" "EntryStack.add" (inClass (top 6) 4) ["self", "number", "leaver"] 3 [] [(false, 0), (false, 1), (false, 2)] := fun _ _ _ _ _ _ us ws h1 h2 => match us, ws, h1, h2 with | [_, _, _], [], _, _ => rfl
theorem bd_EntryStack_moved_1 : BdQ "moved" "EntryStack.moved" (inClass (top 6) 6) ["self"] 1 [] [(false, 0)] := fun _ _ _ _ _ _ us ws h1 h2 => match us, ws, h1, h2 with | [_], [], _, _ => rfl
theorem bd_EntryStack_take_last_1 : BdQ "take_last" "EntryStack.take_last" (inClass (top 6) 5) ["self"] 1 [] [(false, 0)] := fun _ _ _ _ _ _ us ws h1 h2 => match us, ws, h1, h2 with | [_], [], _, _ => rfl
theorem bd__law_begun_1 : BdQ "_law_begun" "_law_begun" (top 8) ["_law_script"] 1 [] [(false, 0)] := fun _ _ _ _ _ _ us ws h1 h2 => match us, ws, h1, h2 with | [_], [], _, _ => rfl
theorem bd__law_is_so_2 : BdQ "_law_is_so" "_law_is_so" (top 13) ["_law_stack", "_law_rows"] 2 [] [(false, 0), (false, 1)] := fun _ _ _ _ _ _ us ws h1 h2 => match us, ws, h1, h2 with | [_, _], [], _, _ => rfl
theorem bd__law_leaver_1 : BdQ "_law_leaver" "_law_leaver" (top 12) ["_law_draw"] 1 [] [(false, 0)] := fun _ _ _ _ _ _ us ws h1 h2 => match us, ws, h1, h2 with | [_], [], _, _ => rfl
theorem bd__law_next_2 : BdQ "_law_next" "_law_next" (top 9) ["_law_draw", "_law_below"] 2 [] [(false, 0), (false, 1)] := fun _ _ _ _ _ _ us ws h1 h2 => match us, ws, h1, h2 with | [_, _], [], _, _ => rfl
theorem bd__law_refused_3 : BdQ "_law_refused" "_law_refused" (top 10) ["_law_stack", "_law_one", "_law_call"] 3 [] [(false, 0), (false, 1), (false, 2)] := fun _ _ _ _ _ _ us ws h1 h2 => match us, ws, h1, h2 with | [_, _, _], [], _, _ => rfl
theorem bd__law_taken_1 : BdQ "_law_taken" "_law_taken" (top 11) ["_law_stack"] 1 [] [(false, 0)] := fun _ _ _ _ _ _ us ws h1 h2 => match us, ws, h1, h2 with | [_], [], _, _ => rfl
section
variable {P : Program} {w : World} {K : PySem.W.Frag} {mg : Str → Option Value} {base : PySem.Heap}
theorem X_BadNumber (G : Gs w K mg) : XcOk P w K mg base (nm K) .v 4 27 "BadNumber" :=
  XcOk.mk' (msg := "not a number of a fault") G.ox_BadNumber G.no_BadNumber_value G.m_BadNumber G.me_BadNumber___init__ G.dx_BadNumber ⟨rfl, rfl, rfl, by decide +kernel, rfl, by decide +kernel, by decide +kernel⟩ (fun _ _ _ _ _ _ us ws h1 h2 => match us, ws, h1, h2 with | [_, _], [], _, _ => rfl)
    fun _ _ _ _ _ _ => pss_cons (ps_expr (pe_bi rfl G.m_ModelError G.bi_ModelError.g G.bi_ModelError.t G.bi_ModelError.r G.bi_ModelError.v (pa_cons (pv 0) (pa_cons pe_str pa_nil)))) (pss_cons (ps_bs (pv 0) (pv 1)) pss_nil)
theorem X_NoPlace (G : Gs w K mg) : XcOk P w K mg base (nm K) .l 5 28 "NoPlace" :=
  XcOk.mk' (msg := "no item with this index") G.ox_NoPlace G.no_NoPlace_index G.m_NoPlace G.me_NoPlace___init__ G.dx_NoPlace ⟨rfl, rfl, rfl, by decide +kernel, rfl, by decide +kernel, by decide +kernel⟩ (fun _ _ _ _ _ _ us ws h1 h2 => match us, ws, h1, h2 with | [_, _], [], _, _ => rfl)
    fun _ _ _ _ _ _ => pss_cons (ps_expr (pe_bi rfl G.m_Absent G.bi_Absent.g G.bi_Absent.t G.bi_Absent.r G.bi_Absent.v (pa_cons (pv 0) (pa_cons pe_str pa_nil)))) (pss_cons (ps_bs (pv 0) (pv 1)) pss_nil)
/-! EntryStack.__init__ -/
def s_EntryStack___init__ : SS := sAsg (eLst (aNil)) (gAttr (okF [3]) 39 (eVar 0))
@[irreducible] def F_EntryStack___init__ : List W → Ev.Heap → R := fnOf 1 1 s_EntryStack___init__
theorem sc_EntryStack___init__ : FnScope ["self"] ["self"] (defScope (inClass (top 6) 0)) := ⟨rfl, rfl, rfl, by decide +kernel, rfl, by decide +kernel, by decide +kernel⟩
theorem b_EntryStack___init__ (G : Gs w K mg)  (f : Addr) : BodyOk P w K mg base (nm K) ["self"] "EntryStack.__init__" (defScope (inClass (top 6) 0)) (defBody (inClass (top 6) 0)) f 0 s_EntryStack___init__ := by
  intro cdv A outer st H E hr hg
  have hu := hu_of hr
  have hU := hr.units
  have hV : _ + 65 < cLine := Nat.lt_of_le_of_lt (Nat.add_le_add_left (by omega : 65 ≤ 16 * 0 + 200) _) hr.un
  have tk := takes_of (X := cxOf (L2.CX P w) P w K mg base ["self"] "EntryStack.__init__" (defScope (inClass (top 6) 0)) f cdv A outer st H E) (E := E) rfl rfl rfl rfl
  have nd := (sc_EntryStack___init__).nd
  unfold s_EntryStack___init__
  exact s_one (s_asg (r_lst (ra_nil)) (g_attr (set_ok1 G.cl_EntryStack G.na_EntryStack_s5_entries) rfl (rv 0)) (gattr_ok _ _ _))
theorem D_EntryStack___init__ (G : Gs w K mg) : MdOk P w K mg base (nm K) 1 (He.ma K (He.ga K "EntryStack") "__init__") "__init__" "EntryStack.__init__" (inClass (top 6) 0) ["self"] F_EntryStack___init__ := by
  unfold F_EntryStack___init__
  exact .mk' G.d_EntryStack___init__ sc_EntryStack___init__ (b_EntryStack___init__ G  _)
/-! EntryStack.add -/
def s_EntryStack_add : SS := sSeq (sIf (bOr (bNot (bTru (eB (bIsi clNo) (aCons (eVar 1) (aCons (eW (.ty "int")) (aNil)))))) (bOr (bTru (eB (bIsi clNo) (aCons (eVar 1) (aCons (eW (.ty "bool")) (aNil))))) (bVal (eBin wLt2 (eVar 1) (eW (.int 0)))))) (sRaise1 4 27 (aCons (eVar 1) (aNil))) (sNil)) (sExpr (eBm "list" mAppend (eAttr (atF [3]) 39 (eVar 0)) (aCons (eTup (aCons (eVar 1) (aCons (eVar 2) (aNil)))) (aNil))))
@[irreducible] def F_EntryStack_add : List W → Ev.Heap → R := fnOf 3 3 s_EntryStack_add
theorem sc_EntryStack_add : FnScope ["self", "number", "leaver"] ["self", "number", "leaver"] (defScope (inClass (top 6) 4)) := ⟨rfl, rfl, rfl, by decide +kernel, rfl, by decide +kernel, by decide +kernel⟩
theorem b_EntryStack_add (G : Gs w K mg) (X_BadNumber : XcOk P w K mg base (nm K) .v 4 27 "BadNumber") (f : Addr) : BodyOk P w K mg base (nm K) ["self", "number", "leaver"] "EntryStack.add" (defScope (inClass (top 6) 4)) (defBody (inClass (top 6) 4)) f 2 s_EntryStack_add := by
  intro cdv A outer st H E hr hg
  have hu := hu_of hr
  have hU := hr.units
  have hV : _ + 65 < cLine := Nat.lt_of_le_of_lt (Nat.add_le_add_left (by omega : 65 ≤ 16 * 2 + 200) _) hr.un
  have tk := takes_of (X := cxOf (L2.CX P w) P w K mg base ["self", "number", "leaver"] "EntryStack.add" (defScope (inClass (top 6) 4)) f cdv A outer st H E) (E := E) rfl rfl rfl rfl
  have nd := (sc_EntryStack_add).nd
  have R_raise : 2 ≤ 2 := by decide
  unfold s_EntryStack_add
  exact s_cons (s_if (t_w (w_or (t_not (t_tru (r_callB (okb_isi isi_no) rfl G.n_isinstance bt_isinstance (ra_cons (rv 1) (ra_cons (r_ty rfl G.n_int bt_int) (ra_nil)))))) (w_or (t_tru (r_callB (okb_isi isi_no) rfl G.n_isinstance bt_isinstance (ra_cons (rv 1) (ra_cons (r_ty rfl G.n_bool bt_bool) (ra_nil))))) (w_or1 (t_cmp (ok_lt2) (rv 1) (r_int) (nomark _)))))) (s_one (s_raiseX rfl tk X_BadNumber (hr.mono R_raise) (ra_cons (rv 1) (ra_nil)))) (s_nil))
    (s_one (s_expr (r_bm PySem.F.plainAttrs_list PySem.F.slot_list_append PySem.F.type_list_append okm_append (r_attr (at_fld1 G.cl_EntryStack G.na_EntryStack_s5_entries) rfl (rv 0) rfl) (ra_cons (r_tup (ra_cons (rv 1) (ra_cons (rv 2) (ra_nil)))) (ra_nil)))))
theorem D_EntryStack_add (G : Gs w K mg) : MdOk P w K mg base (nm K) 3 (He.ma K (He.ga K "EntryStack") "add") "add" "EntryStack.add" (inClass (top 6) 4) ["self", "number", "leaver"] F_EntryStack_add := by
  unfold F_EntryStack_add
  exact .mk' G.d_EntryStack_add sc_EntryStack_add (b_EntryStack_add G (X_BadNumber G) _)
/-! EntryStack.moved -/
def s_EntryStack_moved : SS := sSeq (sAsg (eCall (mkObj 3 F_EntryStack___init__ (pick [(false, 0)])) 0 0 (aNil) (aNil)) (gNm 1)) (sSeq (sAsg (eTup (aCons (eAttr (atF [3]) 39 (eVar 0)) (aCons (eLst (aNil)) (aNil)))) (gTp [gAttr (okF [3]) 39 (eVar 1), gAttr (okF [3]) 39 (eVar 0)])) (sRet (eVar 1)))
@[irreducible] def F_EntryStack_moved : List W → Ev.Heap → R := fnOf 1 2 s_EntryStack_moved
theorem sc_EntryStack_moved : FnScope ["self", "found"] ["self"] (defScope (inClass (top 6) 6)) := ⟨rfl, rfl, rfl, by decide +kernel, rfl, by decide +kernel, by decide +kernel⟩
theorem b_EntryStack_moved (G : Gs w K mg) (D_EntryStack___init__ : MdOk P w K mg base (nm K) 1 (He.ma K (He.ga K "EntryStack") "__init__") "__init__" "EntryStack.__init__" (inClass (top 6) 0) ["self"] F_EntryStack___init__) (f : Addr) : BodyOk P w K mg base (nm K) ["self", "found"] "EntryStack.moved" (defScope (inClass (top 6) 6)) (defBody (inClass (top 6) 6)) f 2 s_EntryStack_moved := by
  intro cdv A outer st H E hr hg
  have hu := hu_of hr
  have hU := hr.units
  have hV : _ + 65 < cLine := Nat.lt_of_le_of_lt (Nat.add_le_add_left (by omega : 65 ≤ 16 * 2 + 200) _) hr.un
  have tk := takes_of (X := cxOf (L2.CX P w) P w K mg base ["self", "found"] "EntryStack.moved" (defScope (inClass (top 6) 6)) f cdv A outer st H E) (E := E) rfl rfl rfl rfl
  have nd := (sc_EntryStack_moved).nd
  have R_EntryStack___init__ : 2 ≤ 2 := by decide
  unfold s_EntryStack_moved
  exact s_cons (s_set nd rfl (Or.inl rfl) (r_make0 (ks := []) G.mk_EntryStack D_EntryStack___init__ bd_EntryStack___init___1 G.m_EntryStack (hr.mono R_EntryStack___init__) hg tk (rk_nil)))
    (s_cons (s_asg (r_tup (ra_cons (r_attr (at_fld1 G.cl_EntryStack G.na_EntryStack_s5_entries) rfl (rv 0) rfl) (ra_cons (r_lst (ra_nil)) (ra_nil)))) (g_tup rfl (gs_cons (g_attr (set_ok1 G.cl_EntryStack G.na_EntryStack_s5_entries) rfl (rv 1)) (gs_cons (g_attr (set_ok1 G.cl_EntryStack G.na_EntryStack_s5_entries) rfl (rv 0)) (gs_nil) (gattr_ok _ _ _)) (gattr_ok _ _ _)) ⟨(gattr_ok _ _ _), ⟨(gattr_ok _ _ _), True.intro⟩⟩ rfl) (gtp_ok ⟨(gattr_ok _ _ _), ⟨(gattr_ok _ _ _), True.intro⟩⟩))
    (s_one (s_ret (rv 1))))
theorem D_EntryStack_moved (G : Gs w K mg) : MdOk P w K mg base (nm K) 3 (He.ma K (He.ga K "EntryStack") "moved") "moved" "EntryStack.moved" (inClass (top 6) 6) ["self"] F_EntryStack_moved := by
  unfold F_EntryStack_moved
  exact .mk' G.d_EntryStack_moved sc_EntryStack_moved (b_EntryStack_moved G (D_EntryStack___init__ G) _)
/-! EntryStack.numbers -/
def s_EntryStack_numbers : SS := sRet (eB bTuple (aCons (eComp [1, 2] (.two 1 2) (iSeq (eAttr (atF [3]) 39 (eVar 0))) (bYes) (eVar 1)) (aNil)))
@[irreducible] def F_EntryStack_numbers : List W → Ev.Heap → R := fnOf 1 3 s_EntryStack_numbers
theorem sc_EntryStack_numbers : FnScope ["self", "number", "leaver"] ["self"] (defScope (inClass (top 6) 2)) := ⟨rfl, rfl, rfl, by decide +kernel, rfl, by decide +kernel, by decide +kernel⟩
theorem b_EntryStack_numbers (G : Gs w K mg)  (f : Addr) : BodyOk0 P w K mg base (nm K) ["self", "number", "leaver"] "EntryStack.numbers" (defScope (inClass (top 6) 2)) (defBody (inClass (top 6) 2)) f 0 s_EntryStack_numbers := by
  intro cdv A outer st H E hr
  have hu := hu_of hr
  have hU := hr.units
  have hV : _ + 65 < cLine := Nat.lt_of_le_of_lt (Nat.add_le_add_left (by omega : 65 ≤ 16 * 0 + 200) _) hr.un
  have tk := takes_of (X := cxOf (L2.CX P w) P w K mg base ["self", "number", "leaver"] "EntryStack.numbers" (defScope (inClass (top 6) 2)) f cdv A outer st H E) (E := E) rfl rfl rfl rfl
  have nd := (sc_EntryStack_numbers).nd
  unfold s_EntryStack_numbers
  exact s_one (s_ret (r_callTy (okb_tuple) rfl G.n_tuple bt_tuple (ra_cons (r_lc rfl nd (i_seq (r_attr (at_fld1 G.cl_EntryStack G.na_EntryStack_s5_entries) rfl (rv 0) rfl)) (own := [("number", 1), ("leaver", 2)]) (blk_ok (by kernel_rfl)) own_two (fun _ _ _ _ _ => tg_two rfl (tg_one nd rfl (Or.inl rfl)) (tg_one nd rfl (Or.inl rfl))) (fun _ _ _ _ _ => c_nil) (fun _ _ _ _ _ => rv 1)) (ra_nil))))
theorem D_EntryStack_numbers (G : Gs w K mg) : GtOk P w K mg base (nm K) 1 (gad K (pad K (He.ga K "EntryStack") "numbers")) F_EntryStack_numbers := by
  unfold F_EntryStack_numbers
  exact .mk' G.d_EntryStack_numbers sc_EntryStack_numbers (b_EntryStack_numbers G  _) (fun _ _ _ _ _ _ us ws h1 h2 => match us, ws, h1, h2 with | [_], [], _, _ => rfl)
/-! EntryStack.words -/
def s_EntryStack_words : SS := sRet (eB bTuple (aCons (eComp [1, 2] (.two 1 2) (iSeq (eAttr (atF [3]) 39 (eVar 0))) (bYes) (eBin wIx (eVar 2) (eW (.int 0)))) (aNil)))
@[irreducible] def F_EntryStack_words : List W → Ev.Heap → R := fnOf 1 3 s_EntryStack_words
theorem sc_EntryStack_words : FnScope ["self", "number", "leaver"] ["self"] (defScope (inClass (top 6) 3)) := ⟨rfl, rfl, rfl, by decide +kernel, rfl, by decide +kernel, by decide +kernel⟩
theorem b_EntryStack_words (G : Gs w K mg)  (f : Addr) : BodyOk0 P w K mg base (nm K) ["self", "number", "leaver"] "EntryStack.words" (defScope (inClass (top 6) 3)) (defBody (inClass (top 6) 3)) f 0 s_EntryStack_words := by
  intro cdv A outer st H E hr
  have hu := hu_of hr
  have hU := hr.units
  have hV : _ + 65 < cLine := Nat.lt_of_le_of_lt (Nat.add_le_add_left (by omega : 65 ≤ 16 * 0 + 200) _) hr.un
  have tk := takes_of (X := cxOf (L2.CX P w) P w K mg base ["self", "number", "leaver"] "EntryStack.words" (defScope (inClass (top 6) 3)) f cdv A outer st H E) (E := E) rfl rfl rfl rfl
  have nd := (sc_EntryStack_words).nd
  unfold s_EntryStack_words
  exact s_one (s_ret (r_callTy (okb_tuple) rfl G.n_tuple bt_tuple (ra_cons (r_lc rfl nd (i_seq (r_attr (at_fld1 G.cl_EntryStack G.na_EntryStack_s5_entries) rfl (rv 0) rfl)) (own := [("number", 1), ("leaver", 2)]) (blk_ok (by kernel_rfl)) own_two (fun _ _ _ _ _ => tg_two rfl (tg_one nd rfl (Or.inl rfl)) (tg_one nd rfl (Or.inl rfl))) (fun _ _ _ _ _ => c_nil) (fun _ _ _ _ _ => rix hu (rv 2) (r_int))) (ra_nil))))
theorem D_EntryStack_words (G : Gs w K mg) : GtOk P w K mg base (nm K) 1 (gad K (pad K (He.ga K "EntryStack") "words")) F_EntryStack_words := by
  unfold F_EntryStack_words
  exact .mk' G.d_EntryStack_words sc_EntryStack_words (b_EntryStack_words G  _) (fun _ _ _ _ _ _ us ws h1 h2 => match us, ws, h1, h2 with | [_], [], _, _ => rfl)
/-! _law_begun -/
def s__law_begun : SS := sSeq (sAsg (eBin wAdd (eW (.int 15485863)) (eBin wMul (eW (.int 37)) (eB bLen (aCons (eVar 0) (aNil))))) (gNm 1)) (sSeq (sFor (.two 2 3) (iEnumW (aCons (eVar 0) (aNil))) (sAsg (eBin wMod (eBin wAdd (eBin wAdd (eBin wMul (eVar 1) (eW (.int 998244353))) (eVar 3)) (eBin wMul (eW (.int 104723)) (eVar 2))) (eW (.int 2305843009213693951))) (gNm 1))) (sRet (eDct ((eW (.str "run"), eVar 1) :: (eW (.str "great"), eComp [3] (.one 3) (iSeq (eVar 0)) (bVal (eBin wGe2 (eVar 3) (eBin wPow (eW (.int 10)) (eW (.int 18))))) (eVar 3)) :: (eW (.str "turn"), eW (.int 0)) :: []))))
@[irreducible] def F__law_begun : List W → Ev.Heap → R := fnOf 1 4 s__law_begun
theorem sc__law_begun : FnScope ["_law_script", "_law_run", "_law_k", "_law_cell"] ["_law_script"] (defScope (top 8)) := ⟨rfl, rfl, rfl, by decide +kernel, rfl, by decide +kernel, by decide +kernel⟩
theorem b__law_begun (G : Gs w K mg)  (f : Addr) : BodyOk P w K mg base (nm K) ["_law_script", "_law_run", "_law_k", "_law_cell"] "_law_begun" (defScope (top 8)) (defBody (top 8)) f 0 s__law_begun := by
  intro cdv A outer st H E hr hg
  have hu := hu_of hr
  have hU := hr.units
  have hV : _ + 65 < cLine := Nat.lt_of_le_of_lt (Nat.add_le_add_left (by omega : 65 ≤ 16 * 0 + 200) _) hr.un
  have tk := takes_of (X := cxOf (L2.CX P w) P w K mg base ["_law_script", "_law_run", "_law_k", "_law_cell"] "_law_begun" (defScope (top 8)) f cdv A outer st H E) (E := E) rfl rfl rfl rfl
  have nd := (sc__law_begun).nd
  unfold s__law_begun
  exact s_cons (s_set nd rfl (Or.inl rfl) (r_bin (ok_add) (r_int) (r_bin (ok_mul) (r_int) (r_callB (okb_len) rfl G.n_len bt_len (ra_cons (rv 0) (ra_nil))))))
    (s_cons (s_for (passes_of rfl) rfl (i_enum rfl G.n_enumerate (ra_cons (rv 0) (ra_nil))) (tg_two rfl (tg_one nd rfl (Or.inl rfl)) (tg_one nd rfl (Or.inl rfl))) (s_one (s_set nd rfl (Or.inl rfl) (r_bin (ok_mod) (r_bin (ok_add) (r_bin (ok_add) (r_bin (ok_mul) (rv 1) (r_int)) (rv 3)) (r_bin (ok_mul) (r_int) (rv 2))) (r_int)))))
    (s_one (s_ret (r_dct (rp_cons (r_str) (rv 1) (rp_cons (r_str) (r_lc rfl nd (i_seq (rv 0)) (own := [("_law_cell", 3)]) (blk_ok (by kernel_rfl)) own_one (fun _ _ _ _ _ => tg_one nd rfl (Or.inl rfl)) (fun _ _ _ _ _ => c_one (t_cmp (ok_ge2) (rv 3) (r_bin (ok_pow) (r_int) (r_int)) (nomark _))) (fun _ _ _ _ _ => rv 3)) (rp_cons (r_str) (r_int) (rp_nil)))) rfl rfl (by simp) (by decide)))))
theorem D__law_begun (G : Gs w K mg) : MdOk P w K mg base (nm K) 1 (He.ga K "_law_begun") "_law_begun" "_law_begun" (top 8) ["_law_script"] F__law_begun := by
  unfold F__law_begun
  exact .mk' G.d__law_begun sc__law_begun (b__law_begun G  _)
/-! EntryStack.size -/
def s_EntryStack_size : SS := sRet (eB bLen (aCons (eAttr (atF [3]) 39 (eVar 0)) (aNil)))
@[irreducible] def F_EntryStack_size : List W → Ev.Heap → R := fnOf 1 1 s_EntryStack_size
theorem sc_EntryStack_size : FnScope ["self"] ["self"] (defScope (inClass (top 6) 1)) := ⟨rfl, rfl, rfl, by decide +kernel, rfl, by decide +kernel, by decide +kernel⟩
theorem b_EntryStack_size (G : Gs w K mg)  (f : Addr) : BodyOk0 P w K mg base (nm K) ["self"] "EntryStack.size" (defScope (inClass (top 6) 1)) (defBody (inClass (top 6) 1)) f 0 s_EntryStack_size := by
  intro cdv A outer st H E hr
  have hu := hu_of hr
  have hU := hr.units
  have hV : _ + 65 < cLine := Nat.lt_of_le_of_lt (Nat.add_le_add_left (by omega : 65 ≤ 16 * 0 + 200) _) hr.un
  have tk := takes_of (X := cxOf (L2.CX P w) P w K mg base ["self"] "EntryStack.size" (defScope (inClass (top 6) 1)) f cdv A outer st H E) (E := E) rfl rfl rfl rfl
  have nd := (sc_EntryStack_size).nd
  unfold s_EntryStack_size
  exact s_one (s_ret (r_callB (okb_len) rfl G.n_len bt_len (ra_cons (r_attr (at_fld1 G.cl_EntryStack G.na_EntryStack_s5_entries) rfl (rv 0) rfl) (ra_nil))))
theorem D_EntryStack_size (G : Gs w K mg) : GtOk P w K mg base (nm K) 1 (gad K (pad K (He.ga K "EntryStack") "size")) F_EntryStack_size := by
  unfold F_EntryStack_size
  exact .mk' G.d_EntryStack_size sc_EntryStack_size (b_EntryStack_size G  _) (fun _ _ _ _ _ _ us ws h1 h2 => match us, ws, h1, h2 with | [_], [], _, _ => rfl)
/-! _law_is_so -/
def s__law_is_so : SS := sSeq (sAsg (eLst (aCons (eAttr (atP 3 F_EntryStack_size) 40 (eVar 0)) (aCons (eAttr (atP 3 F_EntryStack_numbers) 37 (eVar 0)) (aCons (eAttr (atP 3 F_EntryStack_words) 38 (eVar 0)) (aNil))))) (gNm 2)) (sRet (eBin wEq (eB bRepr (aCons (eVar 2) (aNil))) (eB bRepr (aCons (eLst (aCons (eB bLen (aCons (eVar 1) (aNil))) (aCons (eB bTuple (aCons (eComp [3] (.one 3) (iSeq (eVar 1)) (bYes) (eBin wIx (eVar 3) (eW (.int 0)))) (aNil))) (aCons (eB bTuple (aCons (eComp [3] (.one 3) (iSeq (eVar 1)) (bYes) (eBin wIx (eBin wIx (eVar 3) (eW (.int 1))) (eW (.int 0)))) (aNil))) (aNil))))) (aNil)))))
@[irreducible] def F__law_is_so : List W → Ev.Heap → R := fnOf 2 4 s__law_is_so
theorem sc__law_is_so : FnScope ["_law_stack", "_law_rows", "_law_found", "_law_row"] ["_law_stack", "_law_rows"] (defScope (top 13)) := ⟨rfl, rfl, rfl, by decide +kernel, rfl, by decide +kernel, by decide +kernel⟩
theorem b__law_is_so (G : Gs w K mg) (D_EntryStack_numbers : GtOk P w K mg base (nm K) 1 (gad K (pad K (He.ga K "EntryStack") "numbers")) F_EntryStack_numbers) (D_EntryStack_size : GtOk P w K mg base (nm K) 1 (gad K (pad K (He.ga K "EntryStack") "size")) F_EntryStack_size) (D_EntryStack_words : GtOk P w K mg base (nm K) 1 (gad K (pad K (He.ga K "EntryStack") "words")) F_EntryStack_words) (f : Addr) : BodyOk P w K mg base (nm K) ["_law_stack", "_law_rows", "_law_found", "_law_row"] "_law_is_so" (defScope (top 13)) (defBody (top 13)) f 2 s__law_is_so := by
  intro cdv A outer st H E hr hg
  have hu := hu_of hr
  have hU := hr.units
  have hV : _ + 65 < cLine := Nat.lt_of_le_of_lt (Nat.add_le_add_left (by omega : 65 ≤ 16 * 2 + 200) _) hr.un
  have tk := takes_of (X := cxOf (L2.CX P w) P w K mg base ["_law_stack", "_law_rows", "_law_found", "_law_row"] "_law_is_so" (defScope (top 13)) f cdv A outer st H E) (E := E) rfl rfl rfl rfl
  have nd := (sc__law_is_so).nd
  have R_EntryStack_numbers : 2 ≤ 2 := by decide
  have R_EntryStack_size : 2 ≤ 2 := by decide
  have R_EntryStack_words : 2 ≤ 2 := by decide
  unfold s__law_is_so
  exact s_cons (s_set nd rfl (Or.inl rfl) (r_lst (ra_cons (r_attr (at_prop G.cl_EntryStack G.pr_EntryStack_size D_EntryStack_size (hr.mono R_EntryStack_size)) rfl (rv 0) rfl) (ra_cons (r_attr (at_prop G.cl_EntryStack G.pr_EntryStack_numbers D_EntryStack_numbers (hr.mono R_EntryStack_numbers)) rfl (rv 0) rfl) (ra_cons (r_attr (at_prop G.cl_EntryStack G.pr_EntryStack_words D_EntryStack_words (hr.mono R_EntryStack_words)) rfl (rv 0) rfl) (ra_nil))))))
    (s_one (s_ret (r_cmp (ok_eq hU) (r_callB (okb_repr hg hU) rfl G.n_repr bt_repr (ra_cons (rv 2) (ra_nil))) (r_callB (okb_repr hg hU) rfl G.n_repr bt_repr (ra_cons (r_lst (ra_cons (r_callB (okb_len) rfl G.n_len bt_len (ra_cons (rv 1) (ra_nil))) (ra_cons (r_callTy (okb_tuple) rfl G.n_tuple bt_tuple (ra_cons (r_lc rfl nd (i_seq (rv 1)) (own := [("_law_row", 3)]) (blk_ok (by kernel_rfl)) own_one (fun _ _ _ _ _ => tg_one nd rfl (Or.inl rfl)) (fun _ _ _ _ _ => c_nil) (fun _ _ _ _ _ => rix hu (rv 3) (r_int))) (ra_nil))) (ra_cons (r_callTy (okb_tuple) rfl G.n_tuple bt_tuple (ra_cons (r_lc rfl nd (i_seq (rv 1)) (own := [("_law_row", 3)]) (blk_ok (by kernel_rfl)) own_one (fun _ _ _ _ _ => tg_one nd rfl (Or.inl rfl)) (fun _ _ _ _ _ => c_nil) (fun _ _ _ _ _ => rix hu (rix hu (rv 3) (r_int)) (r_int))) (ra_nil))) (ra_nil))))) (ra_nil))) (nomark _))))
theorem D__law_is_so (G : Gs w K mg) : MdOk P w K mg base (nm K) 3 (He.ga K "_law_is_so") "_law_is_so" "_law_is_so" (top 13) ["_law_stack", "_law_rows"] F__law_is_so := by
  unfold F__law_is_so
  exact .mk' G.d__law_is_so sc__law_is_so (b__law_is_so G (D_EntryStack_numbers G) (D_EntryStack_size G) (D_EntryStack_words G) _)
/-! _law_next -/
def s__law_next : SS := sSeq (sAsg (eTup (aCons (eBin wAdd (eBin wIx (eVar 0) (eW (.str "turn"))) (eW (.int 1))) (aCons (eBin wIx (eVar 0) (eW (.str "great"))) (aNil)))) (gTp [gSb (eVar 0) (eW (.str "turn")), gNm 2])) (sSeq (sAsg (eBin wMod (eBin wIx (eVar 0) (eW (.str "turn"))) (eB bMax2 (aCons (eW (.int 1)) (aCons (eB bLen (aCons (eVar 2) (aNil))) (aNil))))) (gNm 3)) (sSeq (sIf (bAnd (bVal (eBin wNe (eVar 2) (eLst (aNil)))) (bVal (eBin wGt2 (eBin wIx (eVar 2) (eVar 3)) (eW (.int 0))))) (sSeq (sAsg (eBin wMod (eBin wIx (eVar 2) (eVar 3)) (eVar 1)) (gNm 4)) (sSeq (sAsg (eBin wFdv (eBin wIx (eVar 2) (eVar 3)) (eVar 1)) (gSb (eVar 2) (eVar 3))) (sRet (eVar 4)))) (sNil)) (sSeq (sAsg (eBin wAdd (eBin wAdd (eBin wMul (eBin wIx (eVar 0) (eW (.str "run"))) (eW (.int 6364136223846793))) (eBin wMul (eW (.int 1442695040888963)) (eBin wIx (eVar 0) (eW (.str "turn"))))) (eW (.int 11))) (gNm 5)) (sSeq (sAsg (eBin wMod (eVar 5) (eW (.int 2305843009213693951))) (gSb (eVar 0) (eW (.str "run")))) (sRet (eBin wMod (eBin wFdv (eBin wIx (eVar 0) (eW (.str "run"))) (eW (.int 32749))) (eVar 1)))))))
@[irreducible] def F__law_next : List W → Ev.Heap → R := fnOf 2 6 s__law_next
theorem sc__law_next : FnScope ["_law_draw", "_law_below", "_law_great", "_law_at", "_law_found", "_law_run"] ["_law_draw", "_law_below"] (defScope (top 9)) := ⟨rfl, rfl, rfl, by decide +kernel, rfl, by decide +kernel, by decide +kernel⟩
theorem b__law_next (G : Gs w K mg)  (f : Addr) : BodyOk P w K mg base (nm K) ["_law_draw", "_law_below", "_law_great", "_law_at", "_law_found", "_law_run"] "_law_next" (defScope (top 9)) (defBody (top 9)) f 0 s__law_next := by
  intro cdv A outer st H E hr hg
  have hu := hu_of hr
  have hU := hr.units
  have hV : _ + 65 < cLine := Nat.lt_of_le_of_lt (Nat.add_le_add_left (by omega : 65 ≤ 16 * 0 + 200) _) hr.un
  have tk := takes_of (X := cxOf (L2.CX P w) P w K mg base ["_law_draw", "_law_below", "_law_great", "_law_at", "_law_found", "_law_run"] "_law_next" (defScope (top 9)) f cdv A outer st H E) (E := E) rfl rfl rfl rfl
  have nd := (sc__law_next).nd
  unfold s__law_next
  exact s_cons (s_asg (r_tup (ra_cons (r_bin (ok_add) (rix hu (rv 0) (r_str)) (r_int)) (ra_cons (rix hu (rv 0) (r_str)) (ra_nil)))) (g_tup rfl (gs_cons (g_sub hu (rv 0) (r_str)) (gs_cons (g_name nd rfl (Or.inl rfl)) (gs_nil) (gnm_ok _)) (gsb_ok _ _)) ⟨(gsb_ok _ _), ⟨(gnm_ok _), True.intro⟩⟩ rfl) (gtp_ok ⟨(gsb_ok _ _), ⟨(gnm_ok _), True.intro⟩⟩))
    (s_cons (s_set nd rfl (Or.inl rfl) (r_bin (ok_mod) (rix hu (rv 0) (r_str)) (r_callB (okb_max2 rfl) rfl G.n_max bt_max (ra_cons (r_int) (ra_cons (r_callB (okb_len) rfl G.n_len bt_len (ra_cons (rv 2) (ra_nil))) (ra_nil))))))
    (s_cons (s_if (t_w (w_and (t_cmp (ok_ne hU) (rv 2) (r_lst (ra_nil)) (nomark _)) (w_and1 (t_cmp (ok_gt2) (rix hu (rv 2) (rv 3)) (r_int) (nomark _))))) (s_cons (s_set nd rfl (Or.inl rfl) (r_bin (ok_mod) (rix hu (rv 2) (rv 3)) (rv 1)))
    (s_cons (s_asg (r_bin (ok_fdv) (rix hu (rv 2) (rv 3)) (rv 1)) (g_sub hu (rv 2) (rv 3)) (gsb_ok _ _))
    (s_one (s_ret (rv 4))))) (s_nil))
    (s_cons (s_set nd rfl (Or.inl rfl) (r_bin (ok_add) (r_bin (ok_add) (r_bin (ok_mul) (rix hu (rv 0) (r_str)) (r_int)) (r_bin (ok_mul) (r_int) (rix hu (rv 0) (r_str)))) (r_int)))
    (s_cons (s_asg (r_bin (ok_mod) (rv 5) (r_int)) (g_sub hu (rv 0) (r_str)) (gsb_ok _ _))
    (s_one (s_ret (r_bin (ok_mod) (r_bin (ok_fdv) (rix hu (rv 0) (r_str)) (r_int)) (rv 1))))))))
theorem D__law_next (G : Gs w K mg) : MdOk P w K mg base (nm K) 1 (He.ga K "_law_next") "_law_next" "_law_next" (top 9) ["_law_draw", "_law_below"] F__law_next := by
  unfold F__law_next
  exact .mk' G.d__law_next sc__law_next (b__law_next G  _)
/-! _law_leaver -/
def s__law_leaver : SS := sSeq (sAsg (eLst (aCons (eTup (aCons (eW (.str "plain")) (aCons (eTup (aNil)) (aNil)))) (aCons (eTup (aCons (eW (.str "null")) (aNil))) (aCons (eTup (aCons (eW (.str "suppress")) (aCons (eW .non) (aNil)))) (aCons (eTup (aCons (eW (.str "later")) (aCons (eTup (aCons (eTup (aCons (eW (.str "note")) (aCons (eW (.int 1)) (aNil)))) (aNil))) (aNil)))) (aCons (eTup (aCons (eW (.str "plain")) (aCons (eTup (aCons (eTup (aCons (eW (.str "return")) (aCons (eW (.bl true)) (aNil)))) (aNil))) (aNil)))) (aNil))))))) (gNm 1)) (sRet (eBin wIx (eVar 1) (eCall (fun xs ys h => F__law_next (pick [(false, 0), (false, 1)] xs ys) h) 2 0 (aCons (eVar 0) (aCons (eW (.int 5)) (aNil))) (aNil))))
@[irreducible] def F__law_leaver : List W → Ev.Heap → R := fnOf 1 2 s__law_leaver
theorem sc__law_leaver : FnScope ["_law_draw", "_law_some"] ["_law_draw"] (defScope (top 12)) := ⟨rfl, rfl, rfl, by decide +kernel, rfl, by decide +kernel, by decide +kernel⟩
theorem b__law_leaver (G : Gs w K mg) (D__law_next : MdOk P w K mg base (nm K) 1 (He.ga K "_law_next") "_law_next" "_law_next" (top 9) ["_law_draw", "_law_below"] F__law_next) (f : Addr) : BodyOk P w K mg base (nm K) ["_law_draw", "_law_some"] "_law_leaver" (defScope (top 12)) (defBody (top 12)) f 1 s__law_leaver := by
  intro cdv A outer st H E hr hg
  have hu := hu_of hr
  have hU := hr.units
  have hV : _ + 65 < cLine := Nat.lt_of_le_of_lt (Nat.add_le_add_left (by omega : 65 ≤ 16 * 1 + 200) _) hr.un
  have tk := takes_of (X := cxOf (L2.CX P w) P w K mg base ["_law_draw", "_law_some"] "_law_leaver" (defScope (top 12)) f cdv A outer st H E) (E := E) rfl rfl rfl rfl
  have nd := (sc__law_leaver).nd
  have R__law_next : 1 ≤ 1 := by decide
  unfold s__law_leaver
  exact s_cons (s_set nd rfl (Or.inl rfl) (r_lst (ra_cons (r_tup (ra_cons (r_str) (ra_cons (r_tup (ra_nil)) (ra_nil)))) (ra_cons (r_tup (ra_cons (r_str) (ra_nil))) (ra_cons (r_tup (ra_cons (r_str) (ra_cons (r_non) (ra_nil)))) (ra_cons (r_tup (ra_cons (r_str) (ra_cons (r_tup (ra_cons (r_tup (ra_cons (r_str) (ra_cons (r_int) (ra_nil)))) (ra_nil))) (ra_nil)))) (ra_cons (r_tup (ra_cons (r_str) (ra_cons (r_tup (ra_cons (r_tup (ra_cons (r_str) (ra_cons (r_bl) (ra_nil)))) (ra_nil))) (ra_nil)))) (ra_nil))))))))
    (s_one (s_ret (rix hu (rv 1) (r_callf (ks := []) G.m__law_next D__law_next bd__law_next_2 (hr.mono R__law_next) hg tk (ra_cons (rv 0) (ra_cons (r_int) (ra_nil))) (rk_nil)))))
theorem D__law_leaver (G : Gs w K mg) : MdOk P w K mg base (nm K) 2 (He.ga K "_law_leaver") "_law_leaver" "_law_leaver" (top 12) ["_law_draw"] F__law_leaver := by
  unfold F__law_leaver
  exact .mk' G.d__law_leaver sc__law_leaver (b__law_leaver G (D__law_next G) _)
/-! _law_refused -/
def s__law_refused_1 : SS := sTry (sExpr (eMeth (onlyC 3 (fun xs ys h => F_EntryStack_add (pick [(false, 0), (false, 1), (false, 2)] xs ys) h)) 36 2 0 (eVar 0) (aCons (eVar 1) (aCons (eVar 2) (aNil))) (aNil))) [⟨exT [(4, true), (5, false)], some 3, sRet (eIf (bTru (eXis (exT [(4, true), (5, false)]) (eVar 3))) (eLst (aCons (eXat (okX [4]) 27 (eVar 3)) (aNil))) (eW .non))⟩]
def s__law_refused_2 : SS := sRet (eW .non)
def s__law_refused : SS := sSeq (s__law_refused_1) (s__law_refused_2)
@[irreducible] def F__law_refused : List W → Ev.Heap → R := fnOf 3 4 s__law_refused
theorem sc__law_refused : FnScope ["_law_stack", "_law_one", "_law_call", "error"] ["_law_stack", "_law_one", "_law_call"] (defScope (top 10)) := ⟨rfl, rfl, rfl, by decide +kernel, rfl, by decide +kernel, by decide +kernel⟩
theorem b__law_refused (G : Gs w K mg) (D_EntryStack_add : MdOk P w K mg base (nm K) 3 (He.ma K (He.ga K "EntryStack") "add") "add" "EntryStack.add" (inClass (top 6) 4) ["self", "number", "leaver"] F_EntryStack_add) (f : Addr) : BodyOk P w K mg base (nm K) ["_law_stack", "_law_one", "_law_call", "error"] "_law_refused" (defScope (top 10)) (defBody (top 10)) f 3 s__law_refused := by
  intro cdv A outer st H E hr hg
  have hu := hu_of hr
  have hU := hr.units
  have hV : _ + 65 < cLine := Nat.lt_of_le_of_lt (Nat.add_le_add_left (by omega : 65 ≤ 16 * 3 + 200) _) hr.un
  have tk := takes_of (X := cxOf (L2.CX P w) P w K mg base ["_law_stack", "_law_one", "_law_call", "error"] "_law_refused" (defScope (top 10)) f cdv A outer st H E) (E := E) rfl rfl rfl rfl
  have nd := (sc__law_refused).nd
  have R_EntryStack_add : 3 ≤ 3 := by decide
  unfold s__law_refused
  exact s_cons (s_try rfl rfl tk (fun _ _ _ tk ps => s_one (s_expr (r_meth (ks := []) (mt_ok G.cl_EntryStack G.me_EntryStack_add D_EntryStack_add bd_EntryStack_add_3 (hr.mono R_EntryStack_add) hg tk) rfl (rv 0) (ra_cons (rv 1) (ra_cons (rv 2) (ra_nil))) (rk_nil)))) (hl_as (cv := .ref (He.ga _ "BadNumber")) rfl rfl rfl nd rfl rfl ⟨rfl, by decide, .inl G.m_BadNumber⟩ (xt_cons G.ex_BadNumber_BadNumber (xt_cons G.ex_NoPlace_BadNumber (xt_nil))) (fun _ => s_one (s_ret (r_if (t_tru (r_xis (cV := .ty "ValueError") (cv := .type "ValueError") (xt_cons ⟨G.xis_BadNumber, G.kx_BadNumber_ValueError⟩ (xt_cons ⟨G.xis_NoPlace, G.kx_NoPlace_ValueError⟩ (xt_nil))) (fun _ z => z) G.n_isinstance (rv 3) (pe_bltn (v := .ty "ValueError") rfl G.n_ValueError bt_ValueError rfl (by decide) (by decide)))) (r_lst (ra_cons (r_xat (xo_cons ⟨G.xf_BadNumber, G.no_BadNumber_value⟩ (xo_nil)) rfl (rv 3)) (ra_nil))) (r_non)))) (hl_nil rfl)))
    (s_one (s_ret (r_non)))
theorem D__law_refused (G : Gs w K mg) : MdOk P w K mg base (nm K) 4 (He.ga K "_law_refused") "_law_refused" "_law_refused" (top 10) ["_law_stack", "_law_one", "_law_call"] F__law_refused := by
  unfold F__law_refused
  exact .mk' G.d__law_refused sc__law_refused (b__law_refused G (D_EntryStack_add G) _)
/-! EntryStack.take_last -/
def s_EntryStack_take_last : SS := sSeq (sIf (bVal (eBin wEq (eAttr (atF [3]) 39 (eVar 0)) (eLst (aNil)))) (sRaise1 5 28 (aCons (eW (.int 0)) (aNil))) (sNil)) (sRet (eBm "list" mPop (eAttr (atF [3]) 39 (eVar 0)) (aNil)))
@[irreducible] def F_EntryStack_take_last : List W → Ev.Heap → R := fnOf 1 1 s_EntryStack_take_last
theorem sc_EntryStack_take_last : FnScope ["self"] ["self"] (defScope (inClass (top 6) 5)) := ⟨rfl, rfl, rfl, by decide +kernel, rfl, by decide +kernel, by decide +kernel⟩
theorem b_EntryStack_take_last (G : Gs w K mg) (X_NoPlace : XcOk P w K mg base (nm K) .l 5 28 "NoPlace") (f : Addr) : BodyOk P w K mg base (nm K) ["self"] "EntryStack.take_last" (defScope (inClass (top 6) 5)) (defBody (inClass (top 6) 5)) f 2 s_EntryStack_take_last := by
  intro cdv A outer st H E hr hg
  have hu := hu_of hr
  have hU := hr.units
  have hV : _ + 65 < cLine := Nat.lt_of_le_of_lt (Nat.add_le_add_left (by omega : 65 ≤ 16 * 2 + 200) _) hr.un
  have tk := takes_of (X := cxOf (L2.CX P w) P w K mg base ["self"] "EntryStack.take_last" (defScope (inClass (top 6) 5)) f cdv A outer st H E) (E := E) rfl rfl rfl rfl
  have nd := (sc_EntryStack_take_last).nd
  have R_raise : 2 ≤ 2 := by decide
  unfold s_EntryStack_take_last
  exact s_cons (s_if (t_cmp (ok_eq hU) (r_attr (at_fld1 G.cl_EntryStack G.na_EntryStack_s5_entries) rfl (rv 0) rfl) (r_lst (ra_nil)) (nomark _)) (s_one (s_raiseX rfl tk X_NoPlace (hr.mono R_raise) (ra_cons (r_int) (ra_nil)))) (s_nil))
    (s_one (s_ret (r_bm0 PySem.F.plainAttrs_list PySem.F.slot_list_pop PySem.F.type_list_pop okm_pop (r_attr (at_fld1 G.cl_EntryStack G.na_EntryStack_s5_entries) rfl (rv 0) rfl))))
theorem D_EntryStack_take_last (G : Gs w K mg) : MdOk P w K mg base (nm K) 3 (He.ma K (He.ga K "EntryStack") "take_last") "take_last" "EntryStack.take_last" (inClass (top 6) 5) ["self"] F_EntryStack_take_last := by
  unfold F_EntryStack_take_last
  exact .mk' G.d_EntryStack_take_last sc_EntryStack_take_last (b_EntryStack_take_last G (X_NoPlace G) _)
/-! _law_taken -/
def s__law_taken : SS := sTry (sRet (eMeth (onlyC 3 (fun xs ys h => F_EntryStack_take_last (pick [(false, 0)] xs ys) h)) 41 0 0 (eVar 0) aNil aNil)) [⟨exT [(4, false), (5, true)], some 1, sRet (eLst (aCons (eW (.str "none")) (aCons (eXat (okX [5]) 28 (eVar 1)) (aNil))))⟩]
@[irreducible] def F__law_taken : List W → Ev.Heap → R := fnOf 1 2 s__law_taken
theorem sc__law_taken : FnScope ["_law_stack", "error"] ["_law_stack"] (defScope (top 11)) := ⟨rfl, rfl, rfl, by decide +kernel, rfl, by decide +kernel, by decide +kernel⟩
theorem b__law_taken (G : Gs w K mg) (D_EntryStack_take_last : MdOk P w K mg base (nm K) 3 (He.ma K (He.ga K "EntryStack") "take_last") "take_last" "EntryStack.take_last" (inClass (top 6) 5) ["self"] F_EntryStack_take_last) (f : Addr) : BodyOk P w K mg base (nm K) ["_law_stack", "error"] "_law_taken" (defScope (top 11)) (defBody (top 11)) f 3 s__law_taken := by
  intro cdv A outer st H E hr hg
  have hu := hu_of hr
  have hU := hr.units
  have hV : _ + 65 < cLine := Nat.lt_of_le_of_lt (Nat.add_le_add_left (by omega : 65 ≤ 16 * 3 + 200) _) hr.un
  have tk := takes_of (X := cxOf (L2.CX P w) P w K mg base ["_law_stack", "error"] "_law_taken" (defScope (top 11)) f cdv A outer st H E) (E := E) rfl rfl rfl rfl
  have nd := (sc__law_taken).nd
  have R_EntryStack_take_last : 3 ≤ 3 := by decide
  unfold s__law_taken
  exact s_one (s_try rfl rfl tk (fun _ _ _ tk ps => s_one (s_ret (r_meth0 (mt_ok G.cl_EntryStack G.me_EntryStack_take_last D_EntryStack_take_last bd_EntryStack_take_last_1 (hr.mono R_EntryStack_take_last) hg tk) rfl (rv 0)))) (hl_as (cv := .ref (He.ga _ "NoPlace")) rfl rfl rfl nd rfl rfl ⟨rfl, by decide, .inl G.m_NoPlace⟩ (xt_cons G.ex_BadNumber_NoPlace (xt_cons G.ex_NoPlace_NoPlace (xt_nil))) (fun _ => s_one (s_ret (r_lst (ra_cons (r_str) (ra_cons (r_xat (xo_cons ⟨G.xf_NoPlace, G.no_NoPlace_index⟩ (xo_nil)) rfl (rv 1)) (ra_nil)))))) (hl_nil rfl)))
theorem D__law_taken (G : Gs w K mg) : MdOk P w K mg base (nm K) 4 (He.ga K "_law_taken") "_law_taken" "_law_taken" (top 11) ["_law_stack"] F__law_taken := by
  unfold F__law_taken
  exact .mk' G.d__law_taken sc__law_taken (b__law_taken G (D_EntryStack_take_last G) _)
/-! law -/
def s_law_1 : SS := sAsg (eBin wIx (eLst (aCons (eW (.int 0)) (aCons (eVar 4) (aCons (eBin wPow (eW (.int 10)) (eW (.int 30))) (aCons (eCall (fun xs ys h => F__law_next (pick [(false, 0), (false, 1)] xs ys) h) 2 0 (aCons (eVar 1) (aCons (eW (.int 9)) (aNil))) (aNil)) (aNil)))))) (eCall (fun xs ys h => F__law_next (pick [(false, 0), (false, 1)] xs ys) h) 2 0 (aCons (eVar 1) (aCons (eW (.int 4)) (aNil))) (aNil))) (gNm 8)
def s_law_2 : SS := sIf (bVal (eBin wIsnt (eCall (fun xs ys h => F__law_refused (pick [(false, 0), (false, 1), (false, 2)] xs ys) h) 3 0 (aCons (eBin wIx (eVar 2) (eVar 5)) (aCons (eVar 8) (aCons (eVar 7) (aNil)))) (aNil)) (eW .non))) (sRet (eW (.bl false))) (sNil)
def s_law_3 : SS := sExpr (eBm "list" mAppend (eBin wIx (eVar 3) (eVar 5)) (aCons (eTup (aCons (eVar 8) (aCons (eVar 7) (aNil)))) (aNil)))
def s_law_4 : SS := sAsg (eBin wIx (eLst (aCons (eW .non) (aCons (eUn wNeg (eW (.int 1))) (aCons (eW (.bl true)) (aCons (eW (.bl false)) (aCons (eW (.str "0")) (aCons (eTup (aCons (eW (.int 0)) (aNil))) (aCons (eLst (aNil)) (aCons (eUn wNeg (eBin wPow (eW (.int 10)) (eW (.int 30)))) (aNil)))))))))) (eCall (fun xs ys h => F__law_next (pick [(false, 0), (false, 1)] xs ys) h) 2 0 (aCons (eVar 1) (aCons (eW (.int 8)) (aNil))) (aNil))) (gNm 9)
def s_law_5 : SS := sIf (bVal (eBin wNe (eB bRepr (aCons (eCall (fun xs ys h => F__law_refused (pick [(false, 0), (false, 1), (false, 2)] xs ys) h) 3 0 (aCons (eBin wIx (eVar 2) (eVar 5)) (aCons (eVar 9) (aCons (eVar 7) (aNil)))) (aNil)) (aNil))) (eB bRepr (aCons (eLst (aCons (eVar 9) (aNil))) (aNil))))) (sRet (eW (.bl false))) (sNil)
def s_law_6 : SS := sAsg (eIf (bVal (eBin wNe (eBin wIx (eVar 3) (eVar 5)) (eLst (aNil)))) (eBin wIx (eBin wIx (eVar 3) (eVar 5)) (eUn wNeg (eW (.int 1)))) (eLst (aCons (eW (.str "none")) (aCons (eW (.int 0)) (aNil))))) (gNm 10)
def s_law_7 : SS := sAsg (eSl (eBin wIx (eVar 3) (eVar 5)) (oNone) (oSome (eUn wNeg (eW (.int 1))))) (gSb (eVar 3) (eVar 5))
def s_law_8 : SS := sIf (bVal (eBin wNe (eB bRepr (aCons (eCall (fun xs ys h => F__law_taken (pick [(false, 0)] xs ys) h) 1 0 (aCons (eBin wIx (eVar 2) (eVar 5)) (aNil)) (aNil)) (aNil))) (eB bRepr (aCons (eVar 10) (aNil))))) (sRet (eW (.bl false))) (sNil)
def s_law_9 : SS := sExpr (eBm "list" mAppend (eVar 2) (aCons (eMeth (onlyC 3 (fun xs ys h => F_EntryStack_moved (pick [(false, 0)] xs ys) h)) 35 0 0 (eBin wIx (eVar 2) (eVar 5)) aNil aNil) (aNil)))
def s_law_10 : SS := sExpr (eBm "list" mAppend (eVar 3) (aCons (eBin wIx (eVar 3) (eVar 5)) (aNil)))
def s_law_11 : SS := sAsg (eLst (aNil)) (gSb (eVar 3) (eVar 5))
def s_law_12 : SS := sPar3 5 6 7 (aCons (eCall (fun xs ys h => F__law_next (pick [(false, 0), (false, 1)] xs ys) h) 2 0 (aCons (eVar 1) (aCons (eB bLen (aCons (eVar 2) (aNil))) (aNil))) (aNil)) (aCons (eCall (fun xs ys h => F__law_next (pick [(false, 0), (false, 1)] xs ys) h) 2 0 (aCons (eVar 1) (aCons (eW (.int 8)) (aNil))) (aNil)) (aCons (eCall (fun xs ys h => F__law_leaver (pick [(false, 0)] xs ys) h) 1 0 (aCons (eVar 1) (aNil)) (aNil)) (aNil))))
def s_law_13 : SS := sIf (bVal (eBin wLt2 (eVar 6) (eW (.int 4)))) (sSeq (s_law_1) (sSeq (s_law_2) (s_law_3))) (sIf (bVal (eBin wEq (eVar 6) (eW (.int 4)))) (sSeq (s_law_4) (s_law_5)) (sIf (bVal (eBin wLt2 (eVar 6) (eW (.int 7)))) (sSeq (s_law_6) (sSeq (s_law_7) (s_law_8))) (sSeq (s_law_9) (sSeq (s_law_10) (s_law_11)))))
def s_law_14 : SS := sIf (bVal (eBin wNe (eComp [12] (.one 12) (iRange1 (aCons (eB bLen (aCons (eVar 2) (aNil))) (aNil))) (bNot (bTru (eCall (fun xs ys h => F__law_is_so (pick [(false, 0), (false, 1)] xs ys) h) 2 0 (aCons (eBin wIx (eVar 2) (eVar 12)) (aCons (eBin wIx (eVar 3) (eVar 12)) (aNil))) (aNil)))) (eVar 12)) (eLst (aNil)))) (sRet (eW (.bl false))) (sNil)
def s_law_15 : SS := sAsg (eCall (fun xs ys h => F__law_begun (pick [(false, 0)] xs ys) h) 1 0 (aCons (eVar 0) (aNil)) (aNil)) (gNm 1)
def s_law_16 : SS := sAsg (eTup (aCons (eLst (aCons (eCall (mkObj 3 F_EntryStack___init__ (pick [(false, 0)])) 0 0 (aNil) (aNil)) (aCons (eCall (mkObj 3 F_EntryStack___init__ (pick [(false, 0)])) 0 0 (aNil) (aNil)) (aNil)))) (aCons (eLst (aCons (eLst (aNil)) (aCons (eLst (aNil)) (aNil)))) (aNil)))) (gTp [gNm 2, gNm 3])
def s_law_17 : SS := sFor (.one 4) (iRange1 (aCons (eBin wAdd (eW (.int 24)) (eB bMin2 (aCons (eW (.int 24)) (aCons (eB bLen (aCons (eVar 0) (aNil))) (aNil))))) (aNil))) (sSeq (s_law_12) (sSeq (s_law_13) (s_law_14)))
def s_law_18 : SS := sAsg (eCall (mkObj 3 F_EntryStack___init__ (pick [(false, 0)])) 0 0 (aNil) (aNil)) (gNm 11)
def s_law_19 : SS := sExpr (eMeth (onlyC 3 (fun xs ys h => F_EntryStack_add (pick [(false, 0), (true, 1), (true, 0)] xs ys) h)) 36 0 2 (eVar 11) aNil (aCons (eTup (aCons (eW (.str "null")) (aNil))) (aCons (eW (.int 7)) (aNil))))
def s_law_20 : SS := sRet (eAnd (eBin wEq (eAttr (atP 3 F_EntryStack_numbers) 37 (eVar 11)) (eTup (aCons (eW (.int 7)) (aNil)))) (eBin wEq (eAttr (atP 3 F_EntryStack_words) 38 (eVar 11)) (eTup (aCons (eW (.str "null")) (aNil)))))
def s_law : SS := sSeq (s_law_15) (sSeq (s_law_16) (sSeq (s_law_17) (sSeq (s_law_18) (sSeq (s_law_19) (s_law_20)))))
@[irreducible] def F_law : List W → Ev.Heap → R := fnOf 1 13 s_law
theorem sc_law : FnScope ["_law_script", "_law_draw", "_law_stacks", "_law_rows", "_law_turn", "_law_at", "_law_way", "_law_call", "_law_one", "_law_odd", "_law_due", "_law_far", "_law_k"] ["_law_script"] (defScope (top 14)) := ⟨rfl, rfl, rfl, by decide +kernel, rfl, by decide +kernel, by decide +kernel⟩
theorem b_law (G : Gs w K mg) (D_EntryStack___init__ : MdOk P w K mg base (nm K) 1 (He.ma K (He.ga K "EntryStack") "__init__") "__init__" "EntryStack.__init__" (inClass (top 6) 0) ["self"] F_EntryStack___init__) (D_EntryStack_add : MdOk P w K mg base (nm K) 3 (He.ma K (He.ga K "EntryStack") "add") "add" "EntryStack.add" (inClass (top 6) 4) ["self", "number", "leaver"] F_EntryStack_add) (D_EntryStack_moved : MdOk P w K mg base (nm K) 3 (He.ma K (He.ga K "EntryStack") "moved") "moved" "EntryStack.moved" (inClass (top 6) 6) ["self"] F_EntryStack_moved) (D_EntryStack_numbers : GtOk P w K mg base (nm K) 1 (gad K (pad K (He.ga K "EntryStack") "numbers")) F_EntryStack_numbers) (D_EntryStack_words : GtOk P w K mg base (nm K) 1 (gad K (pad K (He.ga K "EntryStack") "words")) F_EntryStack_words) (D__law_begun : MdOk P w K mg base (nm K) 1 (He.ga K "_law_begun") "_law_begun" "_law_begun" (top 8) ["_law_script"] F__law_begun) (D__law_is_so : MdOk P w K mg base (nm K) 3 (He.ga K "_law_is_so") "_law_is_so" "_law_is_so" (top 13) ["_law_stack", "_law_rows"] F__law_is_so) (D__law_leaver : MdOk P w K mg base (nm K) 2 (He.ga K "_law_leaver") "_law_leaver" "_law_leaver" (top 12) ["_law_draw"] F__law_leaver) (D__law_next : MdOk P w K mg base (nm K) 1 (He.ga K "_law_next") "_law_next" "_law_next" (top 9) ["_law_draw", "_law_below"] F__law_next) (D__law_refused : MdOk P w K mg base (nm K) 4 (He.ga K "_law_refused") "_law_refused" "_law_refused" (top 10) ["_law_stack", "_law_one", "_law_call"] F__law_refused) (D__law_taken : MdOk P w K mg base (nm K) 4 (He.ga K "_law_taken") "_law_taken" "_law_taken" (top 11) ["_law_stack"] F__law_taken) (f : Addr) : BodyOk P w K mg base (nm K) ["_law_script", "_law_draw", "_law_stacks", "_law_rows", "_law_turn", "_law_at", "_law_way", "_law_call", "_law_one", "_law_odd", "_law_due", "_law_far", "_law_k"] "law" (defScope (top 14)) (defBody (top 14)) f 4 s_law := by
  intro cdv A outer st H E hr hg
  have hu := hu_of hr
  have hU := hr.units
  have hV : _ + 65 < cLine := Nat.lt_of_le_of_lt (Nat.add_le_add_left (by omega : 65 ≤ 16 * 4 + 200) _) hr.un
  have tk := takes_of (X := cxOf (L2.CX P w) P w K mg base ["_law_script", "_law_draw", "_law_stacks", "_law_rows", "_law_turn", "_law_at", "_law_way", "_law_call", "_law_one", "_law_odd", "_law_due", "_law_far", "_law_k"] "law" (defScope (top 14)) f cdv A outer st H E) (E := E) rfl rfl rfl rfl
  have nd := (sc_law).nd
  have R_EntryStack___init__ : 2 ≤ 4 := by decide
  have R_EntryStack_add : 3 ≤ 4 := by decide
  have R_EntryStack_moved : 3 ≤ 4 := by decide
  have R_EntryStack_numbers : 2 ≤ 4 := by decide
  have R_EntryStack_words : 2 ≤ 4 := by decide
  have R__law_begun : 1 ≤ 4 := by decide
  have R__law_is_so : 3 ≤ 4 := by decide
  have R__law_leaver : 2 ≤ 4 := by decide
  have R__law_next : 1 ≤ 4 := by decide
  have R__law_refused : 4 ≤ 4 := by decide
  have R__law_taken : 4 ≤ 4 := by decide
  unfold s_law
  exact s_cons (s_set nd rfl (Or.inl rfl) (r_callf (ks := []) G.m__law_begun D__law_begun bd__law_begun_1 (hr.mono R__law_begun) hg tk (ra_cons (rv 0) (ra_nil)) (rk_nil)))
    (s_cons (s_asg (r_tup (ra_cons (r_lst (ra_cons (r_make0 (ks := []) G.mk_EntryStack D_EntryStack___init__ bd_EntryStack___init___1 G.m_EntryStack (hr.mono R_EntryStack___init__) hg tk (rk_nil)) (ra_cons (r_make0 (ks := []) G.mk_EntryStack D_EntryStack___init__ bd_EntryStack___init___1 G.m_EntryStack (hr.mono R_EntryStack___init__) hg tk (rk_nil)) (ra_nil)))) (ra_cons (r_lst (ra_cons (r_lst (ra_nil)) (ra_cons (r_lst (ra_nil)) (ra_nil)))) (ra_nil)))) (g_tup rfl (gs_cons (g_name nd rfl (Or.inr rfl)) (gs_cons (g_name nd rfl (Or.inr rfl)) (gs_nil) (gnm_ok _)) (gnm_ok _)) ⟨(gnm_ok _), ⟨(gnm_ok _), True.intro⟩⟩ rfl) (gtp_ok ⟨(gnm_ok _), ⟨(gnm_ok _), True.intro⟩⟩))
    (s_cons (s_for (passes_of rfl) rfl (i_range1 rfl G.n_range (ra_cons (r_bin (ok_add) (r_int) (r_callB (okb_min2 rfl) rfl G.n_min bt_min (ra_cons (r_int) (ra_cons (r_callB (okb_len) rfl G.n_len bt_len (ra_cons (rv 0) (ra_nil))) (ra_nil))))) (ra_nil))) (tg_one nd rfl (Or.inl rfl)) (s_cons (s_par3 rfl nd rfl rfl rfl (by decide) (by decide) (by decide) rfl rfl rfl (ra_cons (r_callf (ks := []) G.m__law_next D__law_next bd__law_next_2 (hr.mono R__law_next) hg tk (ra_cons (rv 1) (ra_cons (r_callB (okb_len) rfl G.n_len bt_len (ra_cons (rv 2) (ra_nil))) (ra_nil))) (rk_nil)) (ra_cons (r_callf (ks := []) G.m__law_next D__law_next bd__law_next_2 (hr.mono R__law_next) hg tk (ra_cons (rv 1) (ra_cons (r_int) (ra_nil))) (rk_nil)) (ra_cons (r_callf (ks := []) G.m__law_leaver D__law_leaver bd__law_leaver_1 (hr.mono R__law_leaver) hg tk (ra_cons (rv 1) (ra_nil)) (rk_nil)) (ra_nil)))) rfl)
    (s_cons (s_if (t_cmp (ok_lt2) (rv 6) (r_int) (nomark _)) (s_cons (s_set nd rfl (Or.inl rfl) (rix hu (r_lst (ra_cons (r_int) (ra_cons (rv 4) (ra_cons (r_bin (ok_pow) (r_int) (r_int)) (ra_cons (r_callf (ks := []) G.m__law_next D__law_next bd__law_next_2 (hr.mono R__law_next) hg tk (ra_cons (rv 1) (ra_cons (r_int) (ra_nil))) (rk_nil)) (ra_nil)))))) (r_callf (ks := []) G.m__law_next D__law_next bd__law_next_2 (hr.mono R__law_next) hg tk (ra_cons (rv 1) (ra_cons (r_int) (ra_nil))) (rk_nil))))
    (s_cons (s_if (t_cmp (ok_isnt) (r_callf (ks := []) G.m__law_refused D__law_refused bd__law_refused_3 (hr.mono R__law_refused) hg tk (ra_cons (rix hu (rv 2) (rv 5)) (ra_cons (rv 8) (ra_cons (rv 7) (ra_nil)))) (rk_nil)) (r_non) (nomark _)) (s_one (s_ret (r_bl))) (s_nil))
    (s_one (s_expr (r_bm PySem.F.plainAttrs_list PySem.F.slot_list_append PySem.F.type_list_append okm_append (rix hu (rv 3) (rv 5)) (ra_cons (r_tup (ra_cons (rv 8) (ra_cons (rv 7) (ra_nil)))) (ra_nil))))))) (s_one (s_if (t_cmp (ok_eq hU) (rv 6) (r_int) (nomark _)) (s_cons (s_set nd rfl (Or.inl rfl) (rix hu (r_lst (ra_cons (r_non) (ra_cons (r_un ok_neg (r_int)) (ra_cons (r_bl) (ra_cons (r_bl) (ra_cons (r_str) (ra_cons (r_tup (ra_cons (r_int) (ra_nil))) (ra_cons (r_lst (ra_nil)) (ra_cons (r_un ok_neg (r_bin (ok_pow) (r_int) (r_int))) (ra_nil)))))))))) (r_callf (ks := []) G.m__law_next D__law_next bd__law_next_2 (hr.mono R__law_next) hg tk (ra_cons (rv 1) (ra_cons (r_int) (ra_nil))) (rk_nil))))
    (s_one (s_if (t_cmp (ok_ne hU) (r_callB (okb_repr hg hU) rfl G.n_repr bt_repr (ra_cons (r_callf (ks := []) G.m__law_refused D__law_refused bd__law_refused_3 (hr.mono R__law_refused) hg tk (ra_cons (rix hu (rv 2) (rv 5)) (ra_cons (rv 9) (ra_cons (rv 7) (ra_nil)))) (rk_nil)) (ra_nil))) (r_callB (okb_repr hg hU) rfl G.n_repr bt_repr (ra_cons (r_lst (ra_cons (rv 9) (ra_nil))) (ra_nil))) (nomark _)) (s_one (s_ret (r_bl))) (s_nil)))) (s_one (s_if (t_cmp (ok_lt2) (rv 6) (r_int) (nomark _)) (s_cons (s_set nd rfl (Or.inl rfl) (r_if (t_cmp (ok_ne hU) (rix hu (rv 3) (rv 5)) (r_lst (ra_nil)) (nomark _)) (rix hu (rix hu (rv 3) (rv 5)) (r_un ok_neg (r_int))) (r_lst (ra_cons (r_str) (ra_cons (r_int) (ra_nil))))))
    (s_cons (s_asg (r_sl (rix hu (rv 3) (rv 5)) (ro_none) (ro_some (Wx := fun c d _ H1 => E c d H1) (r_un ok_neg (r_int)))) (g_sub hu (rv 3) (rv 5)) (gsb_ok _ _))
    (s_one (s_if (t_cmp (ok_ne hU) (r_callB (okb_repr hg hU) rfl G.n_repr bt_repr (ra_cons (r_callf (ks := []) G.m__law_taken D__law_taken bd__law_taken_1 (hr.mono R__law_taken) hg tk (ra_cons (rix hu (rv 2) (rv 5)) (ra_nil)) (rk_nil)) (ra_nil))) (r_callB (okb_repr hg hU) rfl G.n_repr bt_repr (ra_cons (rv 10) (ra_nil))) (nomark _)) (s_one (s_ret (r_bl))) (s_nil))))) (s_cons (s_expr (r_bm PySem.F.plainAttrs_list PySem.F.slot_list_append PySem.F.type_list_append okm_append (rv 2) (ra_cons (r_meth0 (mt_ok G.cl_EntryStack G.me_EntryStack_moved D_EntryStack_moved bd_EntryStack_moved_1 (hr.mono R_EntryStack_moved) hg tk) rfl (rix hu (rv 2) (rv 5))) (ra_nil))))
    (s_cons (s_expr (r_bm PySem.F.plainAttrs_list PySem.F.slot_list_append PySem.F.type_list_append okm_append (rv 3) (ra_cons (rix hu (rv 3) (rv 5)) (ra_nil))))
    (s_one (s_asg (r_lst (ra_nil)) (g_sub hu (rv 3) (rv 5)) (gsb_ok _ _))))))))))
    (s_one (s_if (t_cmp (ok_ne hU) (r_lc rfl nd (i_range1 rfl G.n_range (ra_cons (r_callB (okb_len) rfl G.n_len bt_len (ra_cons (rv 2) (ra_nil))) (ra_nil))) (own := [("_law_k", 12)]) (blk_ok (by kernel_rfl)) own_one (fun _ _ _ _ _ => tg_one nd rfl (Or.inl rfl)) (fun _ _ _ _ _ => c_one (t_not (t_tru (r_callf (ks := []) G.m__law_is_so D__law_is_so bd__law_is_so_2 (hr.mono R__law_is_so) hg tk0 (ra_cons (rix hu (rv 2) (rv 12)) (ra_cons (rix hu (rv 3) (rv 12)) (ra_nil))) (rk_nil))))) (fun _ _ _ _ _ => rv 12)) (r_lst (ra_nil)) (nomark _)) (s_one (s_ret (r_bl))) (s_nil))))))
    (s_cons (s_set nd rfl (Or.inl rfl) (r_make0 (ks := []) G.mk_EntryStack D_EntryStack___init__ bd_EntryStack___init___1 G.m_EntryStack (hr.mono R_EntryStack___init__) hg tk (rk_nil)))
    (s_cons (s_expr (r_methK (ks := ["leaver", "number"]) (mt_ok G.cl_EntryStack G.me_EntryStack_add D_EntryStack_add bd_EntryStack_add_1_leaver_number (hr.mono R_EntryStack_add) hg tk) rfl (rv 11) (rk_cons (r_tup (ra_cons (r_str) (ra_nil))) (rk_cons (r_int) (rk_nil)))))
    (s_one (s_ret (r_and (r_cmp (ok_eq hU) (r_attr (at_prop G.cl_EntryStack G.pr_EntryStack_numbers D_EntryStack_numbers (hr.mono R_EntryStack_numbers)) rfl (rv 11) rfl) (r_tup (ra_cons (r_int) (ra_nil))) (nomark _)) (r_one (r_cmp (ok_eq hU) (r_attr (at_prop G.cl_EntryStack G.pr_EntryStack_words D_EntryStack_words (hr.mono R_EntryStack_words)) rfl (rv 11) rfl) (r_tup (ra_cons (r_str) (ra_nil))) (nomark _))))))))))
theorem D_law (G : Gs w K mg) : MdOk P w K mg base (nm K) 5 (He.ga K "law") "law" "law" (top 14) ["_law_script"] F_law := by
  unfold F_law
  exact .mk' G.d_law sc_law (b_law G (D_EntryStack___init__ G) (D_EntryStack_add G) (D_EntryStack_moved G) (D_EntryStack_numbers G) (D_EntryStack_words G) (D__law_begun G) (D__law_is_so G) (D__law_leaver G) (D__law_next G) (D__law_refused G) (D__law_taken G) _)
end
end K47
set_option maxRecDepth 100000
namespace K47
open PySem L2 Ev
open PyData (strOk)
open EvF (ix_ref)
theorem next_eq : F__law_next = F_next "run" 6364136223846793 1442695040888963 2305843009213693951 32749 := by unfold F__law_next F_next; rfl
theorem begun_eq : F__law_begun = F_begun "run" 15485863 37 998244353 104723 2305843009213693951 := by unfold F__law_begun F_begun; rfl
def calls : List W := [.tup [.str "plain", .tup []], .tup [.str "null"], .tup [.str "suppress", .non], .tup [.str "later", .tup [.tup [.str "note", .int 1]]], .tup [.str "plain", .tup [.tup [.str "return", .bl true]]]]
def words : List Str := ["plain", "null", "suppress", "later"]
/-- an entry -/
def EnOk (x : W) : Prop := ∃ (n : Int) (w : Str) (r : List W), x = .tup [.int n, .tup (.str w :: r)] ∧ 0 ≤ n ∧ n.natAbs < 2 ^ 104 ∧ W.tup (.str w :: r) ∈ calls ∧ w ∈ words
def numW : W → W
  | .tup (x :: _) => x
  | _ => .non
def wrdW : W → W
  | .tup [_, .tup (x :: _)] => x
  | _ => .non
theorem eqO_str {h : Ev.Heap} {a : Str} (x : strOk a = true) : eqO h (.str a) (.str a) = some true := by
  have c : (PyData.str a).canLay0 = true := by simpa [PyData.canLay0] using x
  have sh : SeqAt.shaped (.str a) = true := by simp [SeqAt.shaped, c, PyData.depth]
  simp only [eqO, seqW, dataEq, toD, sh, Bool.and_self, if_true, SeqAt.eqv_refl _ c]
theorem filt_true {α : Type} {xs : List α} : xs.filter (fun _ => true) = xs := List.filter_eq_self.mpr fun _ _ => rfl
section
variable {h : Ev.Heap} {d g n : Nat} {Q : W → Ev.Heap → Prop} {E : Nat → List (Nat × W) → Ev.Heap → Prop} {P : Po}
theorem nxt_to {b : Int} (D : Drw "run" h d g) (hb : 0 < b) (hb2 : b < 1073741824) (q : ∀ r h', 0 ≤ r → r < b → Drw "run" h' d g → Kp [d, g] h h' → Q (.int r) h') : (F__law_next [.ref d, .int b] h).to Q E := by
  rw [next_eq]; exact next_to D hb hb2 (q := q)
theorem size_to {s e : Nat} {es : List W} (e1 : h.get s = some (.ins 3 [(39, .ref e)])) (e2 : h.get e = some (.lst es)) (q : Q (.int es.length) h) : (F_EntryStack_size [.ref s] h).to Q E := by
  unfold F_EntryStack_size s_EntryStack_size
  simp [e1, e2, fGet]
  exact q
theorem numbers_to {s e : Nat} {es : List W} (e1 : h.get s = some (.ins 3 [(39, .ref e)])) (e2 : h.get e = some (.lst es)) (hes : ∀ x ∈ es, EnOk x) (hl : es.length ≤ 100) (q : Q (.tup (es.map numW)) (h.new (.lst (es.map numW)))) : (F_EntryStack_numbers [.ref s] h).to Q E := by
  unfold F_EntryStack_numbers s_EntryStack_numbers
  have hz : es.length ≤ sizeLine := by rw [sizeLine_eq]; omega
  simp [e1, e2, fGet, hz]
  refine comp_pure (fun _ => true) numW (by simp [gOk, lstAt, e2, W.eqbs_refl]) es (fun x m => ?_) ?_
  · obtain ⟨n, w, r, rfl, _⟩ := hes x m
    refine ⟨_, rfl, ?_⟩
    simp [wipeL, numW]
  · rw [filt_true]
    simp [itemsW]
    exact q
theorem words_to {s e : Nat} {es : List W} (e1 : h.get s = some (.ins 3 [(39, .ref e)])) (e2 : h.get e = some (.lst es)) (hes : ∀ x ∈ es, EnOk x) (hl : es.length ≤ 100) (q : Q (.tup (es.map wrdW)) (h.new (.lst (es.map wrdW)))) : (F_EntryStack_words [.ref s] h).to Q E := by
  unfold F_EntryStack_words s_EntryStack_words
  have hz : es.length ≤ sizeLine := by rw [sizeLine_eq]; omega
  simp [e1, e2, fGet, hz]
  refine comp_pure (fun _ => true) wrdW (by simp [gOk, lstAt, e2, W.eqbs_refl]) es (fun x m => ?_) ?_
  · obtain ⟨n, w, r, rfl, _⟩ := hes x m
    refine ⟨_, rfl, ?_⟩
    simp [wipeL, wrdW, atI, ixN]
  · rw [filt_true]
    simp [itemsW]
    exact q
def dW : W → PyData
  | .int i => .int i
  | .str s => .str s
  | _ => .none
theorem words_ok : (words.all fun w => strOk w && (strOk (reprText w) && decide (w.cps.size ≤ 40))) = true := by decide +kernel
theorem wrdB {x : W} (hx : EnOk x) : toD h 58 (wrdW x) = some (dW (wrdW x)) ∧ DB 104 0 (dW (wrdW x)) := by
  obtain ⟨n, w, r, rfl, _, _, _, m⟩ := hx
  have := List.all_eq_true.mp words_ok w m
  simp only [Bool.and_eq_true, decide_eq_true_eq] at this
  exact ⟨rfl, (DB.str this.1 this.2.1).mono (by omega) (by omega)⟩
theorem numB {x : W} (hx : EnOk x) : toD h 58 (numW x) = some (dW (numW x)) ∧ DB 104 0 (dW (numW x)) := by
  obtain ⟨n, w, r, rfl, _, hn, _⟩ := hx
  exact ⟨rfl, DB.intw 104 hn⟩
def shownD (es : List W) : PyData := .list [.int es.length, .tuple ((es.map numW).map dW), .tuple ((es.map wrdW).map dW)]
theorem shownB {es : List W} {k : Nat} (e : h.get k = some (.lst [.int es.length, .tup (es.map numW), .tup (es.map wrdW)])) (hes : ∀ x ∈ es, EnOk x) (hl : es.length ≤ 100) : toD h 60 (.ref k) = some (shownD es) ∧ DB (3 * 10501) 2 (shownD es) := by
  have a1 : ∀ y ∈ es.map numW, toD h 58 y = some (dW y) := fun y m => by
    obtain ⟨x, mx, rfl⟩ := List.mem_map.mp m
    exact (numB (hes x mx)).1
  have a2 : ∀ y ∈ es.map wrdW, toD h 58 y = some (dW y) := fun y m => by
    obtain ⟨x, mx, rfl⟩ := List.mem_map.mp m
    exact (wrdB (hes x mx)).1
  have b1 : DB 10500 1 (.tuple ((es.map numW).map dW)) := (DB.tuple (w := 104) (n := 0) fun d m => by
    rw [List.map_map] at m
    obtain ⟨x, mx, rfl⟩ := List.mem_map.mp m
    exact (numB (h := h0) (hes x mx)).2).mono (by simp only [List.length_map]; omega) (Nat.le_refl _)
  have b2 : DB 10500 1 (.tuple ((es.map wrdW).map dW)) := (DB.tuple (w := 104) (n := 0) fun d m => by
    rw [List.map_map] at m
    obtain ⟨x, mx, rfl⟩ := List.mem_map.mp m
    exact (wrdB (h := h0) (hes x mx)).2).mono (by simp only [List.length_map]; omega) (Nat.le_refl _)
  refine ⟨by simp only [toD, lstAt_iff.mpr e, allO, allO_map a1, allO_map a2, Option.map_some]; rfl, ?_⟩
  refine (DB.list (w := 10500) (n := 1) fun d m => ?_).mono (by simp) (by omega)
  simp only [List.mem_cons, List.not_mem_nil, or_false] at m
  rcases m with rfl | rfl | rfl
  · exact (DB.intw 20 (by omega)).mono (by omega) (by omega)
  · exact b1
  · exact b2
theorem so_to {s e r : Nat} {es : List W} (e1 : h.get s = some (.ins 3 [(39, .ref e)])) (e2 : h.get e = some (.lst es)) (e3 : h.get r = some (.lst es)) (ls_ : s < h.nx) (le_ : e < h.nx) (lr_ : r < h.nx) (hes : ∀ x ∈ es, EnOk x) (hl : es.length ≤ 100)
    (q : ∀ h', Kp [] h h' → Q (.bl true) h') : (F__law_is_so [.ref s, .ref r] h).to Q E := by
  have hz : sizeLine = 16777216 := sizeLine_eq
  unfold F__law_is_so s__law_is_so
  simp [e1, hz]
  refine size_to e1 e2 ⟨⟨_, e1⟩, ?_⟩
  refine numbers_to e1 e2 hes hl ?_
  have K1 := Kp.new [] h (.lst (es.map numW))
  generalize h.new (.lst (es.map numW)) = h1 at K1 ⊢
  have e11 := K1.get e1 ls_ (by simp)
  have e12 := K1.get e2 le_ (by simp)
  have l1 := K1.1
  refine ⟨⟨_, e11⟩, ?_⟩
  refine words_to e11 e12 hes hl ?_
  have K2 := K1.trans (Kp.new [] h1 (.lst (es.map wrdW)))
  generalize h1.new (.lst (es.map wrdW)) = h2 at K2 ⊢
  have l2 := K2.1
  obtain ⟨t1, D⟩ := shownB (Heap.new_same h2 _) hes hl
  refine reprB_to (.inl ⟨_, rfl⟩) t1 D (by decide) (by decide) ?_
  have K3 := K2.trans (Kp.new [] h2 (.lst [.int es.length, .tup (es.map numW), .tup (es.map wrdW)]))
  generalize h2.new (.lst [.int es.length, .tup (es.map numW), .tup (es.map wrdW)]) = h3 at K3 ⊢
  have e33 := K3.get e3 lr_ (by simp)
  have l3 := K3.1
  refine ⟨_, e33, _, e33, by omega, ?_⟩
  refine comp_pure (fun _ => true) numW (by simp [gOk, lstAt, e33, W.eqbs_refl]) es (fun x m => ?_) ?_
  · obtain ⟨n, w, r, rfl, _⟩ := hes x m
    refine ⟨_, rfl, ?_⟩
    simp [wipeL, numW, atI, ixN]
  rw [filt_true]
  have K4 := K3.trans (Kp.new [] h3 (.lst (es.map numW)))
  have e4 : (h3.new (.lst (es.map numW))).get h3.nx = _ := Heap.new_same _ _
  generalize h3.new (.lst (es.map numW)) = h4 at K4 e4 ⊢
  have e43 := K4.get e3 lr_ (by simp)
  refine ⟨_, by simp [itemsW, e4]; rfl, _, e43, by omega, ?_⟩
  refine comp_pure (fun _ => true) wrdW (by simp [gOk, lstAt, e43, W.eqbs_refl]) es (fun x m => ?_) ?_
  · obtain ⟨n, w, r, rfl, _⟩ := hes x m
    refine ⟨_, rfl, ?_⟩
    simp [wipeL, wrdW, atI, ixN]
  rw [filt_true]
  have K5 := K4.trans (Kp.new [] h4 (.lst (es.map wrdW)))
  have e5 : (h4.new (.lst (es.map wrdW))).get h4.nx = _ := Heap.new_same _ _
  have n5 : (h4.new (.lst (es.map wrdW))).nx = h4.nx + 1 := rfl
  generalize h4.new (.lst (es.map wrdW)) = h5 at K5 e5 n5 ⊢
  refine ⟨_, by simp [itemsW, e5]; rfl, ?_⟩
  obtain ⟨t2, D2⟩ := shownB (Heap.new_same h5 _) hes hl
  rw [n5] at t2
  refine reprB_to (.inl ⟨_, rfl⟩) t2 D2 (by decide) (by decide) ?_
  exact .inr ⟨eqO_str D2.txt, q _ (K5.trans (Kp.new [] h5 _))⟩

theorem isi_ii : isiO clNo (.b "int") (.ty "int") = some true := by decide +kernel
theorem isi_ib : isiO clNo (.b "int") (.ty "bool") = some false := by decide +kernel
theorem isi_bi : isiO clNo (.b "bool") (.ty "int") = some true := by decide +kernel
theorem isi_bb : isiO clNo (.b "bool") (.ty "bool") = some true := by decide +kernel
theorem add_ok {s e : Nat} {es : List W} {n : Int} {c : W} (e1 : h.get s = some (.ins 3 [(39, .ref e)])) (e2 : h.get e = some (.lst es)) (hn : 0 ≤ n) (hl : es.length ≤ 100) (q : Q .non (h.put e (.lst (es ++ [.tup [.int n, c]])))) : (F_EntryStack_add [.ref s, .int n, c] h).to Q E := by
  have hz : sizeLine = 16777216 := sizeLine_eq
  unfold F_EntryStack_add s_EntryStack_add
  simp [e1, e2, fGet, hz, tyOf, isi_ii, isi_ib]
  exact .inl ⟨hn, by simp [wTyp, e2], by omega, q⟩
theorem add_bad {s : Nat} {x c : W} (hx : (∃ t, tyOf h x = some (.b t) ∧ isiO clNo (.b t) (.ty "int") = some false) ∨ (∃ b, x = .bl b) ∨ ∃ i, x = .int i ∧ i < 0) (q : E 4 [(27, x)] h) : (F_EntryStack_add [.ref s, x, c] h).to Q E := by
  unfold F_EntryStack_add s_EntryStack_add
  rcases hx with ⟨t, h1, h2⟩ | ⟨b, rfl⟩ | ⟨i, rfl, hi⟩
  · simp [h1, h2]
    exact q
  · simp [tyOf, isi_bi, isi_bb]
    exact q
  · simp [tyOf, isi_ii, isi_ib]
    exact .inr ⟨hi, q⟩
theorem refused_ok {s e : Nat} {es : List W} {n : Int} {c : W} (e1 : h.get s = some (.ins 3 [(39, .ref e)])) (e2 : h.get e = some (.lst es)) (hn : 0 ≤ n) (hl : es.length ≤ 100) (q : Q .non (h.put e (.lst (es ++ [.tup [.int n, c]])))) : (F__law_refused [.ref s, .int n, c] h).to Q E := by
  unfold F__law_refused s__law_refused s__law_refused_1 s__law_refused_2
  simp [e1, fGet, pick]
  exact add_ok e1 e2 hn hl q
theorem refused_bad {s e : Nat} {x c : W} (e1 : h.get s = some (.ins 3 [(39, .ref e)])) (hx : (∃ t, tyOf h x = some (.b t) ∧ isiO clNo (.b t) (.ty "int") = some false) ∨ (∃ b, x = .bl b) ∨ ∃ i, x = .int i ∧ i < 0)
    (q : ∀ h' k, Kp [] h h' → h.nx ≤ k → k < h'.nx → h'.get k = some (.lst [x]) → Q (.ref k) h') : (F__law_refused [.ref s, x, c] h).to Q E := by
  unfold F__law_refused s__law_refused s__law_refused_1 s__law_refused_2
  simp [e1, fGet, pick]
  refine add_bad hx ?_
  simp [exT, okX, sizeLine_eq]
  have K1 : Kp [] h (excUp 4 [(27, x)] h) := exc_kp
  have l1 := K1.1
  exact q _ _ (K1.trans (Kp.new [] _ _)) (by omega) (by simp) (Heap.new_same _ _)
theorem taken_ok {s e : Nat} {es : List W} {w : W} (e1 : h.get s = some (.ins 3 [(39, .ref e)])) (e2 : h.get e = some (.lst es)) (hne : es.getLast? = some w) (ls_ : s < h.nx) (le_ : e < h.nx) (q : ∀ h', Kp [e] h h' → h'.get e = some (.lst es.dropLast) → Q w h') : (F__law_taken [.ref s] h).to Q E := by
  unfold F__law_taken s__law_taken
  simp [e1, fGet, pick]
  unfold F_EntryStack_take_last s_EntryStack_take_last
  simp [e1, e2, fGet]
  have K1 := Kp.new [e] h (.lst [])
  have e11 : (h.new (.lst [])).get s = _ := Heap.new_ne (Nat.ne_of_lt ls_) |>.trans e1
  have e12 : (h.new (.lst [])).get e = _ := Heap.new_ne (Nat.ne_of_lt le_) |>.trans e2
  have e13 := eq_nil e12 (Heap.new_same h (.lst []))
  have ne : es ≠ [] := by rintro rfl; simp at hne
  have ne' : es.isEmpty = false := by simpa using ne
  rw [ne'] at e13
  refine .inl ⟨e13, _, e11, .ref e, ⟨39, by simp⟩, by simp [wTyp, e12], ?_⟩
  rw [o_pop0]
  refine ⟨es, w, e12, by rw [← List.getLast?_eq_getElem?]; exact hne, q _ (K1.trans (Kp.put _ _ (by simp))) (Heap.put_same _ _ _)⟩
theorem taken_none {s e : Nat} (e1 : h.get s = some (.ins 3 [(39, .ref e)])) (e2 : h.get e = some (.lst [])) (ls_ : s < h.nx) (le_ : e < h.nx) (q : ∀ h' k, Kp [] h h' → h.nx ≤ k → k < h'.nx → h'.get k = some (.lst [.str "none", .int 0]) → Q (.ref k) h') : (F__law_taken [.ref s] h).to Q E := by
  unfold F__law_taken s__law_taken
  simp [e1, fGet, pick]
  unfold F_EntryStack_take_last s_EntryStack_take_last
  simp [e1, e2, fGet]
  have K1 := Kp.new [] h (.lst [])
  have e12 : (h.new (.lst [])).get e = _ := Heap.new_ne (Nat.ne_of_lt le_) |>.trans e2
  have e13 := eq_nil e12 (Heap.new_same h (.lst []))
  refine .inr ⟨e13, .inl ⟨rfl, ?_⟩⟩
  have K2 := K1.trans (exc_kp (c := 5) (i := 28) (w := .int 0) (S := []) (h := h.new (.lst [])))
  have l2 := K2.1
  exact ⟨rfl, by rw [sizeLine_eq]; decide, q _ _ (K2.trans (Kp.new [] _ _)) (by omega) (by simp) (Heap.new_same _ _)⟩
theorem moved_to {s e : Nat} {es : List W} (e1 : h.get s = some (.ins 3 [(39, .ref e)])) (ls_ : s < h.nx)
    (q : ∀ h' s2 k, Kp [s] h h' → h.nx ≤ s2 → s2 < h'.nx → h.nx ≤ k → k < h'.nx → s2 ≠ k → h'.get s2 = some (.ins 3 [(39, .ref e)]) → h'.get s = some (.ins 3 [(39, .ref k)]) → h'.get k = some (.lst []) → Q (.ref s2) h') : (F_EntryStack_moved [.ref s] h).to Q E := by
  have hz : sizeLine = 16777216 := sizeLine_eq
  have s0 : s ≠ h.nx := Nat.ne_of_lt ls_
  have s1 : s ≠ h.nx + 1 := by omega
  have s2 : s ≠ h.nx + 1 + 1 := by omega
  have n1 : h.nx ≠ h.nx + 1 + 1 := by omega
  unfold F_EntryStack_moved s_EntryStack_moved
  simp [pick, mk_to']
  unfold F_EntryStack___init__ s_EntryStack___init__
  simp [Heap.new_get, Heap.put_get, e1, fGet, fPut, s0, s1, s2, n1, hz]
  refine q _ h.nx (h.nx + 1 + 1) ?_ (Nat.le_refl _) (by simp; omega) (by omega) (by simp) (by omega) ?_ ?_ ?_
  · refine ⟨by simp; omega, fun j lj mj => ?_⟩
    have : j ≠ s := by simpa using mj
    have j0 : j ≠ h.nx := Nat.ne_of_lt lj
    have j1 : j ≠ h.nx + 1 := by omega
    have j2 : j ≠ h.nx + 1 + 1 := by omega
    simp [Heap.new_get, Heap.put_get, this, j0, j1, j2]
  · simp [Heap.new_get, Heap.put_get, s0, s0.symm, n1]
  · simp [Heap.new_get, Heap.put_get, s0, s0.symm, n1]
  · simp [Heap.new_get, Heap.put_get, s0, s0.symm, n1]
    rw [if_neg (by omega), if_neg (by omega)]
theorem leaver_to (D : Drw "run" h d g) (q : ∀ h' c, Kp [d, g] h h' → Drw "run" h' d g → c ∈ calls → Q c h') : (F__law_leaver [.ref d] h).to Q E := by
  have hz : sizeLine = 16777216 := sizeLine_eq
  unfold F__law_leaver s__law_leaver
  simp [hz, pick, -o_ix_int]
  have D1 := D.new (.lst calls)
  have e1 : (h.new (.lst calls)).get h.nx = some (.lst calls) := Heap.new_same _ _
  have K1 : Kp [d, g] h (h.new (.lst calls)) := Kp.new _ _ _
  have ld := D.ld
  have lg := D.lg
  have n1 : (h.new (.lst calls)).nx = h.nx + 1 := rfl
  show (F__law_next [.ref d, .int 5] (h.new (.lst calls))).to _ _
  generalize h.new (.lst calls) = h1 at D1 e1 K1 n1 ⊢
  refine nxt_to D1 (by omega) (by omega) fun r h2 r0 r1 D2 K2 => ?_
  have e2 := K2.get e1 (by omega) (by simp; omega)
  exact ix_ref e2 r0 (by simpa [calls] using r1) fun w mw => q _ _ (K1.trans K2) D2 mw

/-- a stack: itself, its list, the law's list, what they hold -/
structure Rc where
  s : Nat
  e : Nat
  r : Nat
  es : List W
structure RcOk (h : Ev.Heap) (m : Nat) (r : Rc) : Prop where
  gs : h.get r.s = some (.ins 3 [(39, .ref r.e)])
  ge : h.get r.e = some (.lst r.es)
  gr : h.get r.r = some (.lst r.es)
  ls : r.s < h.nx
  le : r.e < h.nx
  lr : r.r < h.nx
  ok : ∀ x ∈ r.es, EnOk x
  ln : r.es.length ≤ m
theorem RcOk.keep {h h' : Ev.Heap} {S : List Nat} {m m' : Nat} {r : Rc} (k : RcOk h m r) (K : Kp S h h') (a : r.s ∉ S) (b : r.e ∉ S) (c : r.r ∉ S) (hm : m ≤ m') : RcOk h' m' r :=
  ⟨K.get k.gs k.ls a, K.get k.ge k.le b, K.get k.gr k.lr c, Nat.lt_of_lt_of_le k.ls K.1, Nat.lt_of_lt_of_le k.le K.1, Nat.lt_of_lt_of_le k.lr K.1, k.ok, Nat.le_trans k.ln hm⟩
structure SJ (h : Ev.Heap) (d g ks kr m : Nat) (T : List Rc) : Prop where
  D : Drw "run" h d g
  gs : h.get ks = some (.lst (T.map fun r => W.ref r.s))
  gr : h.get kr = some (.lst (T.map fun r => W.ref r.r))
  ls : ks < h.nx
  lr : kr < h.nx
  rc : ∀ (i : Nat) (r : Rc), T[i]? = some r → RcOk h m r
  sep : ∃ f : Nat → Nat, f d = 0 ∧ f g = 1 ∧ f ks = 2 ∧ f kr = 3 ∧ ∀ (i : Nat) (r : Rc), T[i]? = some r → f r.s = 4 + 3 * i ∧ f r.e = 5 + 3 * i ∧ f r.r = 6 + 3 * i
  pos : 0 < T.length
  len : T.length ≤ m + 2
theorem SJ.kp {h h' : Ev.Heap} {d g ks kr m m' : Nat} {T : List Rc} (J : SJ h d g ks kr m T) (K : Kp [d, g] h h') (D' : Drw "run" h' d g) (hm : m ≤ m') : SJ h' d g ks kr m' T := by
  obtain ⟨f, f1, f2, f3, f4, f5⟩ := J.sep
  have ne : ∀ {x : Nat}, f x ≠ 0 → f x ≠ 1 → x ∉ [d, g] := fun {x} a b z => by
    simp only [List.mem_cons, List.not_mem_nil, or_false] at z
    rcases z with rfl | rfl
    · exact a f1
    · exact b f2
  refine ⟨D', K.get J.gs J.ls (ne (by omega) (by omega)), K.get J.gr J.lr (ne (by omega) (by omega)), Nat.lt_of_lt_of_le J.ls K.1, Nat.lt_of_lt_of_le J.lr K.1, fun i r e => ?_, ⟨f, f1, f2, f3, f4, f5⟩, J.pos, by have := J.len; omega⟩
  obtain ⟨a, b, c⟩ := f5 i r e
  exact (J.rc i r e).keep K (ne (by omega) (by omega)) (ne (by omega) (by omega)) (ne (by omega) (by omega)) hm
theorem SJ.upd {h h' : Ev.Heap} {d g ks kr m i : Nat} {T : List Rc} {r r' : Rc} {S : List Nat} (J : SJ h d g ks kr m T) (ei : T[i]? = some r) (K : Kp S h h') (hS : ∀ x ∈ S, x = ks ∨ x = kr ∨ x = r.s ∨ x = r.e ∨ x = r.r)
    (gs : h'.get ks = some (.lst ((T.set i r').map fun r => W.ref r.s))) (gr : h'.get kr = some (.lst ((T.set i r').map fun r => W.ref r.r))) (ok : RcOk h' (m + 1) r') (es : r'.s = r.s) (ee : r'.e = r.e) (er : r'.r = r.r ∨ h.nx ≤ r'.r) : SJ h' d g ks kr (m + 1) (T.set i r') := by
  obtain ⟨f, f1, f2, f3, f4, f5⟩ := J.sep
  obtain ⟨q1, q2, q3⟩ := f5 i r ei
  have ro := J.rc i r ei
  have il : i < T.length := (List.getElem?_eq_some_iff.mp ei).1
  have ne : ∀ {x : Nat}, f x ≠ 2 → f x ≠ 3 → f x ≠ 4 + 3 * i → f x ≠ 5 + 3 * i → f x ≠ 6 + 3 * i → x ∉ S := fun {x} a b c d' e z => by
    rcases hS x z with rfl | rfl | rfl | rfl | rfl
    · exact a f3
    · exact b f4
    · exact c q1
    · exact d' q2
    · exact e q3
  have D' : Drw "run" h' d g := by
    obtain ⟨⟨mm, t, ed⟩, ⟨gl, eg, hl⟩, l1, l2, nn⟩ := J.D
    exact ⟨⟨mm, t, K.get ed l1 (ne (by omega) (by omega) (by omega) (by omega) (by omega))⟩, ⟨gl, K.get eg l2 (ne (by omega) (by omega) (by omega) (by omega) (by omega)), hl⟩, Nat.lt_of_lt_of_le l1 K.1, Nat.lt_of_lt_of_le l2 K.1, nn⟩
  refine ⟨D', gs, gr, Nat.lt_of_lt_of_le J.ls K.1, Nat.lt_of_lt_of_le J.lr K.1, fun j x e => ?_, ⟨fun n => if n = r'.r then 6 + 3 * i else f n, ?_, ?_, ?_, ?_, fun j x e => ?_⟩, by simpa using J.pos, by have := J.len; simp; omega⟩
  · by_cases z : i = j
    · subst z
      rw [List.getElem?_set_self il] at e
      cases e
      exact ok
    · rw [List.getElem?_set_ne z] at e
      obtain ⟨a, b, c⟩ := f5 j x e
      exact (J.rc j x e).keep K (ne (by omega) (by omega) (by omega) (by omega) (by omega)) (ne (by omega) (by omega) (by omega) (by omega) (by omega)) (ne (by omega) (by omega) (by omega) (by omega) (by omega)) (by omega)
  all_goals have nr : ∀ {y : Nat}, y < h.nx → f y ≠ 6 + 3 * i → y ≠ r'.r := fun {y} l a z => by
              rcases er with e2 | e2
              · rw [e2] at z; rw [z] at a; exact a q3
              · omega
  · show (if d = r'.r then _ else f d) = 0
    rw [if_neg (nr J.D.ld (by omega))]; exact f1
  · show (if g = r'.r then _ else f g) = 1
    rw [if_neg (nr J.D.lg (by omega))]; exact f2
  · show (if ks = r'.r then _ else f ks) = 2
    rw [if_neg (nr J.ls (by omega))]; exact f3
  · show (if kr = r'.r then _ else f kr) = 3
    rw [if_neg (nr J.lr (by omega))]; exact f4
  · simp only
    by_cases z : i = j
    · subst z
      rw [List.getElem?_set_self il] at e
      cases e
      rw [es, ee, if_neg (nr ro.ls (by omega)), if_neg (nr ro.le (by omega)), if_pos rfl]
      exact ⟨q1, q2, rfl⟩
    · rw [List.getElem?_set_ne z] at e
      obtain ⟨a, b, c⟩ := f5 j x e
      have xo := J.rc j x e
      rw [if_neg (nr xo.ls (by omega)), if_neg (nr xo.le (by omega)), if_neg (nr xo.lr (by omega))]
      exact ⟨a, b, c⟩
/-- moved: a new stack behind -/
theorem SJ.app {h h' : Ev.Heap} {d g ks kr m i s2 e2 r2 : Nat} {T : List Rc} {r : Rc} (J : SJ h d g ks kr m T) (ei : T[i]? = some r) (K : Kp [r.s, ks, kr] h h') (l1 : h.nx ≤ s2) (l2 : h.nx ≤ e2) (l3 : h.nx ≤ r2) (n1 : s2 ≠ e2) (n2 : s2 ≠ r2) (n3 : e2 ≠ r2) (b1 : s2 < h'.nx) (b2 : e2 < h'.nx) (b3 : r2 < h'.nx)
    (gs : h'.get ks = some (.lst ((T.map fun r => W.ref r.s) ++ [.ref s2]))) (gr : h'.get kr = some (.lst (((T.set i ⟨r.s, e2, r2, []⟩).map fun r => W.ref r.r) ++ [.ref r.r]))) (g1 : h'.get s2 = some (.ins 3 [(39, .ref r.e)])) (g2 : h'.get r.s = some (.ins 3 [(39, .ref e2)])) (g3 : h'.get e2 = some (.lst [])) (g4 : h'.get r2 = some (.lst [])) :
    SJ h' d g ks kr (m + 1) (T.set i ⟨r.s, e2, r2, []⟩ ++ [⟨s2, r.e, r.r, r.es⟩]) := by
  obtain ⟨f, f1, f2, f3, f4, f5⟩ := J.sep
  obtain ⟨q1, q2, q3⟩ := f5 i r ei
  have ro := J.rc i r ei
  have il : i < T.length := (List.getElem?_eq_some_iff.mp ei).1
  have ne : ∀ {x : Nat}, f x ≠ 2 → f x ≠ 3 → f x ≠ 4 + 3 * i → x ∉ [r.s, ks, kr] := fun {x} a b c z => by
    simp only [List.mem_cons, List.not_mem_nil, or_false] at z
    rcases z with rfl | rfl | rfl
    · exact c q1
    · exact a f3
    · exact b f4
  have D' : Drw "run" h' d g := by
    obtain ⟨⟨mm, t, ed⟩, ⟨gl, eg, hl⟩, l1, l2, nn⟩ := J.D
    exact ⟨⟨mm, t, K.get ed l1 (ne (by omega) (by omega) (by omega))⟩, ⟨gl, K.get eg l2 (ne (by omega) (by omega) (by omega)), hl⟩, Nat.lt_of_lt_of_le l1 K.1, Nat.lt_of_lt_of_le l2 K.1, nn⟩
  have hset : (T.set i ⟨r.s, e2, r2, []⟩).map (fun r => W.ref r.s) = T.map fun r => W.ref r.s := by
    apply List.ext_getElem?
    intro j
    rw [List.getElem?_map, List.getElem?_map]
    by_cases z : i = j
    · subst z
      rw [List.getElem?_set_self il, ei]
      rfl
    · rw [List.getElem?_set_ne z]
  have at_ : ∀ (j : Nat) (x : Rc), (T.set i ⟨r.s, e2, r2, []⟩ ++ [⟨s2, r.e, r.r, r.es⟩])[j]? = some x → (j = i ∧ x = ⟨r.s, e2, r2, []⟩) ∨ (j ≠ i ∧ j < T.length ∧ T[j]? = some x) ∨ (j = T.length ∧ x = ⟨s2, r.e, r.r, r.es⟩) := fun j x e => by
    by_cases z : j < T.length
    · rw [List.getElem?_append_left (by simpa using z)] at e
      by_cases y : i = j
      · subst y
        rw [List.getElem?_set_self il] at e
        cases e
        exact .inl ⟨rfl, rfl⟩
      · rw [List.getElem?_set_ne y] at e
        exact .inr (.inl ⟨fun w => y w.symm, z, e⟩)
    · rw [List.getElem?_append_right (by simpa using z), List.length_set] at e
      have : j - T.length = 0 := by
        cases w : j - T.length with
        | zero => rfl
        | succ k => rw [w] at e; simp at e
      rw [this] at e
      simp at e
      exact .inr (.inr ⟨by omega, e.symm⟩)
  have np := J.pos
  refine ⟨D', by rw [List.map_append, hset]; exact gs, by rw [List.map_append]; exact gr, Nat.lt_of_lt_of_le J.ls K.1, Nat.lt_of_lt_of_le J.lr K.1, fun j x e => ?_,
    ⟨fun n => if n = s2 then 4 + 3 * T.length else if n = r.e then 5 + 3 * T.length else if n = r.r then 6 + 3 * T.length else if n = e2 then 5 + 3 * i else if n = r2 then 6 + 3 * i else f n, ?_, ?_, ?_, ?_, fun j x e => ?_⟩, by simp, by have := J.len; simp; omega⟩
  · rcases at_ j x e with ⟨rfl, rfl⟩ | ⟨z, _, e⟩ | ⟨rfl, rfl⟩
    · exact ⟨g2, g3, g4, Nat.lt_of_lt_of_le ro.ls K.1, b2, b3, by simp, by simp⟩
    · obtain ⟨a, b, c⟩ := f5 j x e
      exact (J.rc j x e).keep K (ne (by omega) (by omega) (by omega)) (ne (by omega) (by omega) (by omega)) (ne (by omega) (by omega) (by omega)) (by omega)
    · have := ro.ln
      exact ⟨g1, K.get ro.ge ro.le (ne (x := r.e) (by omega) (by omega) (by omega)), K.get ro.gr ro.lr (ne (x := r.r) (by omega) (by omega) (by omega)), b1, Nat.lt_of_lt_of_le ro.le K.1, Nat.lt_of_lt_of_le ro.lr K.1, ro.ok, Nat.le_succ_of_le this⟩
  all_goals have old : ∀ {y : Nat}, y < h.nx → f y ≠ 5 + 3 * i → f y ≠ 6 + 3 * i → (if y = s2 then 4 + 3 * T.length else if y = r.e then 5 + 3 * T.length else if y = r.r then 6 + 3 * T.length else if y = e2 then 5 + 3 * i else if y = r2 then 6 + 3 * i else f y) = f y := fun {y} l a b => by
              rw [if_neg (by omega), if_neg (fun z => a (by rw [z]; exact q2)), if_neg (fun z => b (by rw [z]; exact q3)), if_neg (by omega), if_neg (by omega)]
  · exact (old J.D.ld (by omega) (by omega)).trans f1
  · exact (old J.D.lg (by omega) (by omega)).trans f2
  · exact (old J.ls (by omega) (by omega)).trans f3
  · exact (old J.lr (by omega) (by omega)).trans f4
  · have rl := ro.le
    have rr := ro.lr
    rcases at_ j x e with ⟨rfl, rfl⟩ | ⟨z, _, e⟩ | ⟨rfl, rfl⟩
    · refine ⟨(old ro.ls (by omega) (by omega)).trans q1, ?_, ?_⟩
      · simp only
        rw [if_neg (by omega), if_neg (by omega), if_neg (by omega), if_pos trivial]
      · simp only
        rw [if_neg (by omega), if_neg (by omega), if_neg (by omega), if_neg (by omega), if_pos trivial]
    · obtain ⟨a, b, c⟩ := f5 j x e
      have xo := J.rc j x e
      exact ⟨(old xo.ls (by omega) (by omega)).trans a, (old xo.le (by omega) (by omega)).trans b, (old xo.lr (by omega) (by omega)).trans c⟩
    · refine ⟨if_pos rfl, ?_, ?_⟩
      · simp only
        rw [if_neg (by omega), if_pos trivial]
      · simp only
        rw [if_neg (by omega), if_neg (fun z => by rw [z] at q3; omega), if_pos trivial]

theorem at_nat {α : Type} {xs : List α} {i : Nat} {x : α} (e : xs[i]? = some x) : atI xs (i : Int) = some x := by
  have l := (List.getElem?_eq_some_iff.mp e).1
  unfold atI ixN
  rw [if_pos (by omega), if_pos (by omega)]
  simpa using e
theorem ix_at {k i : Nat} {xs : List W} {x : W} (e : h.get k = some (.lst xs)) (ex : xs[i]? = some x) (q : Q x h) : (wIx (.ref k) (.int i) h).to Q E := by
  simp [e, at_nat ex]
  exact q
theorem SJ.sAt {ks kr m i : Nat} {T : List Rc} {r : Rc} (J : SJ h d g ks kr m T) (ei : T[i]? = some r) : (T.map fun r => W.ref r.s)[i]? = some (.ref r.s) ∧ (T.map fun r => W.ref r.r)[i]? = some (.ref r.r) := by
  rw [List.getElem?_map, List.getElem?_map, ei]
  exact ⟨rfl, rfl⟩
theorem set_map {α β : Type} {f : α → β} {xs : List α} {i : Nat} {x y : α} (e : xs[i]? = some x) (h : f y = f x) : (xs.set i y).map f = xs.map f := by
  apply List.ext_getElem?
  intro j
  rw [List.getElem?_map, List.getElem?_map]
  by_cases z : i = j
  · subst z
    rw [List.getElem?_set_self (List.getElem?_eq_some_iff.mp e).1, e]
    simp [h]
  · rw [List.getElem?_set_ne z]
theorem brA {ks kr m i t : Nat} {T : List Rc} {r : Rc} {sc w6 : W} {a8 a9 a10 a11 a12 : Option W} {w : Str} {cr : List W} (J : SJ h d g ks kr m T) (ei : T[i]? = some r) (ht : t < 100) (hm : m ≤ 60) (hc : W.tup (.str w :: cr) ∈ calls) (hw : w ∈ words)
    (q : ∀ h' T' a8, SJ h' d g ks kr (m + 1) T' → P.nx [some sc, some (.ref d), some (.ref ks), some (.ref kr), some (.int t), some (.int i), some w6, some (.tup (.str w :: cr)), a8, a9, a10, a11, a12] h') :
    ((sSeq s_law_1 (sSeq s_law_2 s_law_3)) [some sc, some (.ref d), some (.ref ks), some (.ref kr), some (.int t), some (.int i), some w6, some (.tup (.str w :: cr)), a8, a9, a10, a11, a12] h).to P := by
  have hz : sizeLine = 16777216 := sizeLine_eq
  have p30 : smallI 10 = true := by decide
  unfold s_law_1 s_law_2 s_law_3
  simp [hz, pick, -o_ix_int]
  refine nxt_to J.D (by omega) (by omega) fun r1 h1 r10 r11 D1 K1 => ?_
  have J1 := J.kp K1 D1 (Nat.le_refl _)
  have E1 : ∃ h2, h2 = h1.new (.lst [.int 0, .int t, .int 1000000000000000000000000000000, .int r1]) := ⟨_, rfl⟩
  obtain ⟨h2, E1⟩ := E1
  have K2 : Kp [d, g] h1 h2 := by rw [E1]; exact Kp.new _ _ _
  have D2 : Drw "run" h2 d g := by rw [E1]; exact D1.new _
  have e2 : h2.get h1.nx = some (.lst [.int 0, .int t, .int 1000000000000000000000000000000, .int r1]) := by rw [E1]; exact Heap.new_same _ _
  have n2 : h2.nx = h1.nx + 1 := by rw [E1]; rfl
  rw [← E1]
  clear E1
  have J2 := J1.kp K2 D2 (Nat.le_refl _)
  refine nxt_to D2 (by omega) (by omega) fun r2 h3 r20 r21 D3 K3 => ?_
  have J3 := J2.kp K3 D3 (Nat.le_refl _)
  have l1 := D1.ld
  have l2 := D1.lg
  have e3 := K3.get e2 (by omega) (by simp; omega)
  refine ix_ref e3 r20 (by simpa using r21) fun w1 mw => ?_
  obtain ⟨n, rfl, n0, nb⟩ : ∃ n : Int, w1 = .int n ∧ 0 ≤ n ∧ n.natAbs < 2 ^ 104 := by
    simp only [List.mem_cons, List.not_mem_nil, or_false] at mw
    rcases mw with rfl | rfl | rfl | rfl
    · exact ⟨0, rfl, by omega, by decide⟩
    · exact ⟨t, rfl, by omega, by omega⟩
    · exact ⟨_, rfl, by omega, by decide⟩
    · exact ⟨r1, rfl, r10, by omega⟩
  obtain ⟨s1, s2⟩ := J3.sAt ei
  have ro := J3.rc i r ei
  refine ix_at J3.gs s1 ?_
  refine refused_ok ro.gs ro.ge n0 (by have := ro.ln; omega) ?_
  obtain ⟨f, f1, f2, f3, f4, f5⟩ := J3.sep
  obtain ⟨q1, q2, q3⟩ := f5 i r ei
  have n1 : kr ≠ r.e := fun z => by rw [z] at f4; omega
  have n2' : r.r ≠ r.e := fun z => by rw [z] at q3; omega
  have n3 : ks ≠ r.e := fun z => by rw [z] at f3; omega
  have n4 : ks ≠ r.r := fun z => by rw [z] at f3; omega
  have n5 : kr ≠ r.r := fun z => by rw [z] at f4; omega
  have n6 : r.s ≠ r.e := fun z => by rw [z] at q1; omega
  have n7 : r.s ≠ r.r := fun z => by rw [z] at q1; omega
  have eo : EnOk (.tup [.int n, .tup (.str w :: cr)]) := ⟨n, w, cr, rfl, n0, nb, hc, hw⟩
  have K4 : Kp [r.e, r.r] h3 (h3.put r.e (.lst (r.es ++ [.tup [.int n, .tup (.str w :: cr)]]))) := Kp.put _ _ (by simp)
  have g4 : (h3.put r.e (.lst (r.es ++ [.tup [.int n, .tup (.str w :: cr)]]))).get r.r = _ := (Heap.put_ne n2').trans ro.gr
  have g5 : (h3.put r.e (.lst (r.es ++ [.tup [.int n, .tup (.str w :: cr)]]))).get kr = _ := (Heap.put_ne n1).trans J3.gr
  refine .inr ⟨rfl, ix_at g5 s2 ?_⟩
  simp [wTyp, g4, hz]
  have := ro.ln
  refine ⟨by omega, q _ (T.set i { r with es := r.es ++ [.tup [.int n, .tup (.str w :: cr)]] }) _ (J3.upd ei (K4.trans (Kp.put _ _ (by simp))) (by simp) ?_ ?_ ?_ rfl rfl (.inl rfl))⟩
  · rw [Heap.put_ne n4, Heap.put_ne n3, J3.gs]
    exact congrArg (fun z => some (Ob.lst z)) (set_map ei (by rfl)).symm
  · rw [Heap.put_ne n5, Heap.put_ne n1, J3.gr]
    exact congrArg (fun z => some (Ob.lst z)) (set_map ei (by rfl)).symm
  · refine ⟨?_, ?_, ?_, ro.ls, ro.le, ro.lr, fun x m => ?_, by simp; omega⟩
    · rw [Heap.put_ne n7, Heap.put_ne n6]; exact ro.gs
    · rw [Heap.put_ne n2'.symm, Heap.put_same]
    · rw [Heap.put_same]
    · rcases List.mem_append.mp m with m | m
      · exact ro.ok x m
      · simp at m; rw [m]; exact eo
theorem isi_ni : isiO clNo (.b "NoneType") (.ty "int") = some false := by decide +kernel
theorem isi_si : isiO clNo (.b "str") (.ty "int") = some false := by decide +kernel
theorem isi_ti : isiO clNo (.b "tuple") (.ty "int") = some false := by decide +kernel
theorem isi_li : isiO clNo (.b "list") (.ty "int") = some false := by decide +kernel
def odds (k : Nat) : List W := [.non, .int (-1), .bl true, .bl false, .str "0", .tup [.int 0], .ref k, .int (-1000000000000000000000000000000)]
theorem odd_ok {k : Nat} {w : W} (m : w ∈ odds k) : (h.get k = some (.lst []) → (∃ t, tyOf h w = some (.b t) ∧ isiO clNo (.b t) (.ty "int") = some false) ∨ (∃ b, w = .bl b) ∨ ∃ i, w = .int i ∧ i < 0) ∧
    ∃ dd, DB 200 1 dd ∧ ∀ h' : Ev.Heap, h'.get k = some (.lst []) → toD h' 59 w = some dd := by
  simp only [odds, List.mem_cons, List.not_mem_nil, or_false] at m
  rcases m with rfl | rfl | rfl | rfl | rfl | rfl | rfl | rfl
  · exact ⟨fun _ => .inl ⟨_, rfl, isi_ni⟩, .none, DB.none.mono (by omega) (by omega), fun _ _ => rfl⟩
  · exact ⟨fun _ => .inr (.inr ⟨_, rfl, by omega⟩), _, (DB.intw (i := -1) 5 (by decide)).mono (by omega) (by omega), fun _ _ => rfl⟩
  · exact ⟨fun _ => .inr (.inl ⟨_, rfl⟩), _, (DB.bool true).mono (by omega) (by omega), fun _ _ => rfl⟩
  · exact ⟨fun _ => .inr (.inl ⟨_, rfl⟩), _, (DB.bool false).mono (by omega) (by omega), fun _ _ => rfl⟩
  · exact ⟨fun _ => .inl ⟨_, rfl, isi_si⟩, _, (DB.str (s := "0") (by decide +kernel) (by decide +kernel)).mono (by decide +kernel) (by omega), fun _ _ => rfl⟩
  · refine ⟨fun _ => .inl ⟨_, rfl, isi_ti⟩, .tuple [.int 0], (DB.tuple (w := 5) (n := 0) fun d m => ?_).mono (by simp) (by omega), fun _ _ => rfl⟩
    simp at m
    rw [m]
    exact DB.intw 5 (by decide)
  · refine ⟨fun e => .inl ⟨"list", by simp [tyOf, e], isi_li⟩, .list [], (DB.list (w := 5) (n := 0) fun d m => by simp at m).mono (by simp) (by omega), fun h' e => ?_⟩
    simp only [toD, lstAt_iff.mpr e, allO, Option.map_some]
  · exact ⟨fun _ => .inr (.inr ⟨_, rfl, by omega⟩), _, (DB.intw (i := -1000000000000000000000000000000) 104 (by decide)).mono (by omega) (by omega), fun _ _ => rfl⟩
/-- a list of one item -/
theorem one_toD {k : Nat} {w : W} {dd : PyData} (e : h.get k = some (.lst [w])) (t : toD h 59 w = some dd) (b : DB 200 1 dd) : toD h 60 (.ref k) = some (.list [dd]) ∧ DB 201 2 (.list [dd]) := by
  refine ⟨by simp only [toD, lstAt_iff.mpr e, allO, t, Option.map_some], (DB.list (w := 200) (n := 1) fun d m => ?_).mono (by simp) (by omega)⟩
  simp at m
  rw [m]; exact b
theorem brB {ks kr m i t : Nat} {T : List Rc} {r : Rc} {sc w6 c : W} {a8 a9 a10 a11 a12 : Option W} (J : SJ h d g ks kr m T) (ei : T[i]? = some r) (hm : m ≤ 60)
    (q : ∀ h' a9, SJ h' d g ks kr (m + 1) T → P.nx [some sc, some (.ref d), some (.ref ks), some (.ref kr), some (.int t), some (.int i), some w6, some c, a8, a9, a10, a11, a12] h') :
    ((sSeq s_law_4 s_law_5) [some sc, some (.ref d), some (.ref ks), some (.ref kr), some (.int t), some (.int i), some w6, some c, a8, a9, a10, a11, a12] h).to P := by
  have hz : sizeLine = 16777216 := sizeLine_eq
  have p30 : smallI 10 = true := by decide
  unfold s_law_4 s_law_5
  simp [hz, pick, -o_ix_int]
  obtain ⟨h1, E1⟩ : ∃ h1, h1 = (h.new (.lst [])).new (.lst (odds h.nx)) := ⟨_, rfl⟩
  have K1 : Kp [d, g] h h1 := by rw [E1]; exact (Kp.new _ _ _).trans (Kp.new _ _ _)
  have D1 : Drw "run" h1 d g := by rw [E1]; exact (J.D.new _).new _
  have e1 : h1.get (h.nx + 1) = some (.lst (odds h.nx)) := by rw [E1]; exact Heap.new_same _ _
  have e0 : h1.get h.nx = some (.lst []) := by rw [E1, Heap.new_ne (by simp)]; exact Heap.new_same _ _
  have n1 : h1.nx = h.nx + 1 + 1 := by rw [E1]; rfl
  show (F__law_next [.ref d, .int 8] ((h.new (.lst [])).new (.lst (odds h.nx)))).to _ _
  rw [← E1]
  clear E1
  have ld := J.D.ld
  have lg := J.D.lg
  refine nxt_to D1 (by omega) (by omega) fun r1 h2 r10 r11 D2 K2 => ?_
  have J2 := J.kp (K1.trans K2) D2 (Nat.le_refl _)
  have e2 := K2.get e1 (by omega) (by simp; omega)
  have e02 := K2.get e0 (by omega) (by simp; omega)
  refine ix_ref e2 r10 (by simpa [odds] using r11) fun w mw => ?_
  obtain ⟨bad, dd, B, T0⟩ := odd_ok (h := h2) mw
  obtain ⟨s1, s2⟩ := J2.sAt ei
  have ro := J2.rc i r ei
  refine ix_at J2.gs s1 ?_
  have l2 := K2.1
  refine refused_bad ro.gs (bad e02) fun h3 k K3 k1 k2 e3 => ?_
  have e03 := K3.get e02 (by omega) (by simp)
  obtain ⟨t3, B3⟩ := one_toD e3 (T0 h3 e03) B
  refine reprB_to (.inl ⟨_, rfl⟩) t3 B3 (by decide) (by decide) ?_
  have e04 : (h3.new (.lst [w])).get h.nx = _ := (Heap.new_ne (by have := K3.1; omega)).trans e03
  obtain ⟨t4, B4⟩ := one_toD (Heap.new_same h3 _) (T0 _ e04) B
  refine reprB_to (.inl ⟨_, rfl⟩) t4 B4 (by decide) (by decide) ?_
  refine .inr ⟨eqO_str B4.txt, q _ _ (J2.kp ((K3.mono (by simp)).trans (Kp.new _ _ _)) ((D2.kp K3).new _) (by omega))⟩
theorem callB {x : W} (m : x ∈ calls) : ∃ dd, DB 60 3 dd ∧ ∀ h' : Ev.Heap, toD h' 59 x = some dd := by
  simp only [calls, List.mem_cons, List.not_mem_nil, or_false] at m
  rcases m with rfl | rfl | rfl | rfl | rfl
  · exact ⟨.tuple [.str "plain", .tuple []], ⟨by decide +kernel, by decide +kernel, by decide +kernel, by decide +kernel, by decide +kernel, by decide +kernel, by decide +kernel⟩, fun _ => rfl⟩
  · exact ⟨.tuple [.str "null"], ⟨by decide +kernel, by decide +kernel, by decide +kernel, by decide +kernel, by decide +kernel, by decide +kernel, by decide +kernel⟩, fun _ => rfl⟩
  · exact ⟨.tuple [.str "suppress", .none], ⟨by decide +kernel, by decide +kernel, by decide +kernel, by decide +kernel, by decide +kernel, by decide +kernel, by decide +kernel⟩, fun _ => rfl⟩
  · exact ⟨.tuple [.str "later", .tuple [.tuple [.str "note", .int 1]]], ⟨by decide +kernel, by decide +kernel, by decide +kernel, by decide +kernel, by decide +kernel, by decide +kernel, by decide +kernel⟩, fun _ => rfl⟩
  · exact ⟨.tuple [.str "plain", .tuple [.tuple [.str "return", .bool true]]], ⟨by decide +kernel, by decide +kernel, by decide +kernel, by decide +kernel, by decide +kernel, by decide +kernel, by decide +kernel⟩, fun _ => rfl⟩
theorem entB {x : W} (hx : EnOk x) : (∃ xs, x = .tup xs) ∧ ∃ dd, DB 400 5 dd ∧ ∀ h' : Ev.Heap, toD h' 60 x = some dd := by
  obtain ⟨n, w, r, rfl, _, hn, m, _⟩ := hx
  obtain ⟨dd, B, T⟩ := callB m
  refine ⟨⟨_, rfl⟩, PyData.tuple [.int n, dd], (DB.tuple (w := 104) (n := 3) fun d m => ?_).mono (by simp) (by omega), fun h' => ?_⟩
  · simp at m
    rcases m with rfl | rfl
    · exact (DB.intw 104 hn).mono (by omega) (by omega)
    · exact B.mono (by omega) (by omega)
  · show (allO (toD h' 59) [.int n, .tup (.str w :: r)]).map PyData.tuple = _
    simp only [allO, T h']
    rfl
theorem ix_last {k : Nat} {xs : List W} {x : W} (e : h.get k = some (.lst xs)) (ex : xs.getLast? = some x) (q : Q x h) : (wIx (.ref k) (.int (-1)) h).to Q E := by
  have np : 0 < xs.length := by
    cases xs with
    | nil => simp at ex
    | cons => simp
  have : atI xs (-1) = some x := by
    unfold atI ixN
    rw [if_neg (by omega)]
    rw [List.getLast?_eq_getElem?] at ex
    have e2 : ((-1 : Int) + xs.length).toNat = xs.length - 1 := by omega
    simp only [e2]
    rw [if_pos (by omega)]
    simpa using ex
  simp [e, this]
  exact q
theorem cut_last {xs : List W} : wCut xs none (some (-1)) = xs.dropLast := by
  have e : HT.sIx xs.length xs.length (some (-1)) = xs.length - 1 := by
    show (if (-1 : Int) < 0 then ((-1 : Int) + (xs.length : Int)).toNat else min (-1 : Int).toNat xs.length) = _
    rw [if_pos (by omega)]
    omega
  unfold wCut
  rw [e, HT.sIx_none, List.drop_zero, Nat.sub_zero, List.dropLast_eq_take]
theorem set_at {k i : Nat} {xs : List W} {w : W} (e : h.get k = some (.lst xs)) (l : i < xs.length) : wSet (.ref k) (.int i) w h = some (h.put k (.lst (xs.set i w))) := by
  rw [o_set_int]
  refine .inl ⟨xs, i, e, ?_, rfl⟩
  unfold ixN
  rw [if_pos (by omega), if_pos (by omega)]
  simp
theorem brC {ks kr m i t : Nat} {T : List Rc} {r : Rc} {sc w6 c : W} {a8 a9 a10 a11 a12 : Option W} (J : SJ h d g ks kr m T) (ei : T[i]? = some r) (hm : m ≤ 60)
    (q : ∀ h' T' a10, SJ h' d g ks kr (m + 1) T' → P.nx [some sc, some (.ref d), some (.ref ks), some (.ref kr), some (.int t), some (.int i), some w6, some c, a8, a9, a10, a11, a12] h') :
    ((sSeq s_law_6 (sSeq s_law_7 s_law_8)) [some sc, some (.ref d), some (.ref ks), some (.ref kr), some (.int t), some (.int i), some w6, some c, a8, a9, a10, a11, a12] h).to P := by
  have hz : sizeLine = 16777216 := sizeLine_eq
  have il : i < T.length := (List.getElem?_eq_some_iff.mp ei).1
  obtain ⟨s1, s2⟩ := J.sAt ei
  have ro := J.rc i r ei
  obtain ⟨f, f1, f2, f3, f4, f5⟩ := J.sep
  obtain ⟨q1, q2, q3⟩ := f5 i r ei
  have n1 : kr ≠ r.e := fun z => by rw [z] at f4; omega
  have n2 : r.r ≠ r.e := fun z => by rw [z] at q3; omega
  have n3 : ks ≠ r.e := fun z => by rw [z] at f3; omega
  have n4 : ks ≠ kr := fun z => by rw [z] at f3; omega
  have n5 : kr ≠ r.r := fun z => by rw [z] at f4; omega
  have n6 : r.s ≠ r.e := fun z => by rw [z] at q1; omega
  have n7 : r.s ≠ kr := fun z => by rw [z] at q1; omega
  have lr := ro.lr
  have le := ro.le
  have lkr := J.lr
  unfold s_law_6 s_law_7 s_law_8
  simp [hz, pick, -o_ix_int, -o_set_int, -o_sl_ref]
  refine ix_at J.gr s2 ?_
  have K1 : Kp [] h (h.new (.lst [])) := Kp.new _ _ _
  have e1 := K1.get ro.gr lr (by simp)
  have eq1 := eq_nil e1 (Heap.new_same h (.lst []))
  have hn1 : (h.new (.lst [])).nx = h.nx + 1 := rfl
  generalize h.new (.lst []) = h1 at K1 e1 eq1 hn1 ⊢
  have gr1 := K1.get J.gr J.lr (by simp)
  -- behind: rows[at] is a new list, and the due value is in hand
  have back : ∀ (h2 : Ev.Heap) (due : W) (dd : PyData), Kp [] h h2 → ((∃ k, due = .ref k ∧ k < h2.nx ∧ k ≠ kr ∧ h2.get k = some (.lst [.str "none", .int 0])) ∧ r.es = [] ∨ r.es.getLast? = some due) →
      ((wIx (.ref kr) (.int i) h2).to (fun x h1 => (wSl x none (some (-1)) h1).to (fun w_1 h1 => ∃ h3, wSet (.ref kr) (.int i) w_1 h1 = some h3 ∧ (wIx (.ref ks) (.int i) h3).to (fun x h1 => (F__law_taken [x] h1).to (fun x h1 => (bRepr [x] h1).to (fun x h1 => (bRepr [due] h1).to (fun y h2 => eqO h2 x y = some false ∧ P.rt (.bl false) h2 ∨
        eqO h2 x y = some true ∧ P.nx [some sc, some (.ref d), some (.ref ks), some (.ref kr), some (.int t), some (.int i), some w6, some c, a8, a9, some due, a11, a12] h2) fun c_1 fs h1 => P.ex c_1 fs [some sc, some (.ref d), some (.ref ks), some (.ref kr), some (.int t), some (.int i), some w6, some c, a8, a9, some due, a11, a12] h1)
        fun c_1 fs h1 => P.ex c_1 fs [some sc, some (.ref d), some (.ref ks), some (.ref kr), some (.int t), some (.int i), some w6, some c, a8, a9, some due, a11, a12] h1) fun c_1 fs h1 => P.ex c_1 fs [some sc, some (.ref d), some (.ref ks), some (.ref kr), some (.int t), some (.int i), some w6, some c, a8, a9, some due, a11, a12] h1)
        fun c_1 fs h1 => P.ex c_1 fs [some sc, some (.ref d), some (.ref ks), some (.ref kr), some (.int t), some (.int i), some w6, some c, a8, a9, some due, a11, a12] h1) fun c_1 fs h1 => P.ex c_1 fs [some sc, some (.ref d), some (.ref ks), some (.ref kr), some (.int t), some (.int i), some w6, some c, a8, a9, some due, a11, a12] h1)
        fun c_1 fs h1 => P.ex c_1 fs [some sc, some (.ref d), some (.ref ks), some (.ref kr), some (.int t), some (.int i), some w6, some c, a8, a9, some due, a11, a12] h1) := by
    intro h2 due dd K2 hd
    refine ix_at (K2.get J.gr J.lr (by simp)) s2 ?_
    rw [o_sl_ref]
    refine ⟨_, K2.get ro.gr lr (by simp), ?_⟩
    rw [cut_last]
    have K3 := K2.trans (Kp.new [] h2 (.lst r.es.dropLast))
    have e3 : (h2.new (.lst r.es.dropLast)).get h2.nx = _ := Heap.new_same _ _
    have n3' : (h2.new (.lst r.es.dropLast)).nx = h2.nx + 1 := rfl
    have ld : ∀ k, due = .ref k → k < h2.nx → (h2.new (.lst r.es.dropLast)).get k = h2.get k := fun k _ l => Heap.new_ne (by omega)
    generalize h2.new (.lst r.es.dropLast) = h3 at K3 e3 n3' ld ⊢
    have l2 := K2.1
    have gr3 := K3.get J.gr J.lr (by simp)
    refine ⟨_, set_at gr3 (by simpa using il), ?_⟩
    have K4 : Kp [kr] h3 (h3.put kr (.lst ((T.map fun r => W.ref r.r).set i (.ref h2.nx)))) := Kp.put _ _ (by simp)
    have gr4 : (h3.put kr (.lst ((T.map fun r => W.ref r.r).set i (.ref h2.nx)))).get kr = _ := Heap.put_same _ _ _
    generalize h3.put kr (.lst ((T.map fun r => W.ref r.r).set i (.ref h2.nx))) = h4 at K4 gr4 ⊢
    have K5 : Kp [kr] h h4 := (K3.mono (by simp)).trans K4
    refine ix_at (K5.get J.gs J.ls (by simpa using n4)) s1 ?_
    have gs5 := K5.get ro.gs ro.ls (by simpa using n7)
    have ge5 := K5.get ro.ge ro.le (by simpa using n1.symm)
    have l4 := K4.1
    have e5 : h4.get h2.nx = some (.lst r.es.dropLast) := K4.get e3 (by omega) (by simp; omega)
    have a1 : h2.nx < h4.nx := by omega
    have a2 : h.nx ≤ h4.nx := K5.1
    have fin : ∀ h6, Kp [r.e] h4 h6 → h6.get r.e = some (.lst r.es.dropLast) → SJ h6 d g ks kr (m + 1) (T.set i { r with r := h2.nx, es := r.es.dropLast }) := fun h6 K6 e6 => by
      have l6 := K6.1
      refine J.upd ei (S := [kr, r.e]) ((K5.mono (by simp)).trans (K6.mono (by simp))) (by simp) ?_ ?_ ⟨?_, e6, ?_, ?_, ?_, ?_, fun x mx => ro.ok x ((List.dropLast_sublist _).subset mx), ?_⟩ rfl rfl (.inr l2)
      · rw [K6.get (K5.get J.gs J.ls (by simpa using n4)) (by have := J.ls; omega) (by simpa using n3)]
        exact congrArg (fun z => some (Ob.lst z)) (set_map ei (by rfl)).symm
      · rw [K6.get gr4 (by omega) (by simpa using n1), List.map_set]
      · exact K6.get (n := r.s) gs5 (by have := ro.ls; omega) (by simpa using n6)
      · exact K6.get e5 (by omega) (by simp; omega)
      · have := ro.ls; show r.s < h6.nx; omega
      · show r.e < h6.nx; omega
      · show h2.nx < h6.nx; omega
      · have := ro.ln; simp; omega
    rcases hd with ⟨⟨k, rfl, kl, kne, ek⟩, hes⟩ | hl
    · rw [hes] at ge5 fin
      have B : DB 60 1 (.list [.str "none", .int 0]) := ⟨by decide +kernel, by decide +kernel, by decide +kernel, by decide +kernel, by decide +kernel, by decide +kernel, by decide +kernel⟩
      refine taken_none gs5 ge5 (by have := ro.ls; omega) (by omega) fun h6 k6 K6 a6 b6 e6 => ?_
      refine reprB_to (.inl ⟨_, rfl⟩) (d := .list [.str "none", .int 0]) (by simp only [toD, lstAt_iff.mpr e6, allO, Option.map_some]) B (by decide) (by decide) ?_
      have ek3 : h3.get k = _ := (ld k rfl kl).trans ek
      have ek6 := K6.get (K4.get ek3 (by omega) (by simpa using kne)) (by omega) (by simp)
      refine reprB_to (.inl ⟨_, rfl⟩) (d := .list [.str "none", .int 0]) (by simp only [toD, lstAt_iff.mpr ek6, allO, Option.map_some]) B (by decide) (by decide) ?_
      exact .inr ⟨eqO_str B.txt, q _ _ _ (fin h6 (K6.mono (by simp)) (K6.get ge5 (by omega) (by simp)))⟩
    · refine taken_ok gs5 ge5 hl (by have := ro.ls; omega) (by omega) fun h6 K6 e6 => ?_
      have mx : due ∈ r.es := List.mem_of_getLast? hl
      obtain ⟨tx, dd, B, TT⟩ := entB (ro.ok _ mx)
      refine reprB_to (.inr (.inl tx)) (TT _) B (by decide) (by decide) ?_
      refine reprB_to (.inr (.inl tx)) (TT _) B (by decide) (by decide) ?_
      exact .inr ⟨eqO_str B.txt, q _ _ _ (fin h6 K6 e6)⟩
  by_cases hes : r.es = []
  · have ee : r.es.isEmpty = true := by rw [hes]; rfl
    rw [ee] at eq1
    refine .inr ⟨eq1, ?_⟩
    have K2 := K1.trans (Kp.new [] h1 (.lst [.str "none", .int 0]))
    have e2 : (h1.new (.lst [.str "none", .int 0])).get h1.nx = _ := Heap.new_same _ _
    have := back _ (.ref h1.nx) .none K2 (.inl ⟨⟨h1.nx, rfl, by simp, by have := K1.1; omega, e2⟩, hes⟩)
    rw [hn1] at this
    exact this
  · have ee : r.es.isEmpty = false := by simpa using hes
    rw [ee] at eq1
    obtain ⟨w, ew⟩ : ∃ w, r.es.getLast? = some w := ⟨_, List.getLast?_eq_some_getLast hes⟩
    refine .inl ⟨eq1, ix_at gr1 s2 (ix_last e1 ew ?_)⟩
    exact back h1 w .none K1 (.inr ew)
theorem brD {ks kr m i t : Nat} {T : List Rc} {r : Rc} {sc w6 c : W} {a8 a9 a10 a11 a12 : Option W} (J : SJ h d g ks kr m T) (ei : T[i]? = some r) (hm : m ≤ 60)
    (q : ∀ h' T', SJ h' d g ks kr (m + 1) T' → P.nx [some sc, some (.ref d), some (.ref ks), some (.ref kr), some (.int t), some (.int i), some w6, some c, a8, a9, a10, a11, a12] h') :
    ((sSeq s_law_9 (sSeq s_law_10 s_law_11)) [some sc, some (.ref d), some (.ref ks), some (.ref kr), some (.int t), some (.int i), some w6, some c, a8, a9, a10, a11, a12] h).to P := by
  have hz : sizeLine = 16777216 := sizeLine_eq
  have il : i < T.length := (List.getElem?_eq_some_iff.mp ei).1
  obtain ⟨s1, s2⟩ := J.sAt ei
  have ro := J.rc i r ei
  obtain ⟨f, f1, f2, f3, f4, f5⟩ := J.sep
  obtain ⟨q1, q2, q3⟩ := f5 i r ei
  have n4 : ks ≠ kr := fun z => by rw [z] at f3; omega
  have n7 : r.s ≠ kr := fun z => by rw [z] at q1; omega
  have n8 : ks ≠ r.s := fun z => by rw [z] at f3; omega
  have lks := J.ls
  have lkr := J.lr
  have lrs := ro.ls
  have ln := J.len
  unfold s_law_9 s_law_10 s_law_11
  simp [hz, pick, -o_ix_int, -o_set_int]
  refine ⟨by simp [wTyp, J.gs], ix_at J.gs s1 ⟨_, rfl, _, ro.gs, rfl, ?_⟩⟩
  refine moved_to (es := r.es) ro.gs ro.ls fun h1 s2' k K1 a1 a2 b1 b2 ne g1 g2 g3 => ?_
  have l1 := K1.1
  have gs1 := K1.get J.gs J.ls (by simpa using n8)
  have gr1 := K1.get J.gr J.lr (by simpa using n7.symm)
  refine ⟨_, gs1, by simp; omega, by simp [wTyp, Heap.put_ne n4.symm, gr1], ?_⟩
  have K2 : Kp [ks] h1 (h1.put ks (.lst (T.map (fun r : Rc => W.ref r.s) ++ [W.ref s2']))) := Kp.put _ _ (by simp)
  have gs2 : (h1.put ks (.lst (T.map (fun r : Rc => W.ref r.s) ++ [W.ref s2']))).get ks = _ := Heap.put_same _ _ _
  have nx2 : (h1.put ks (.lst (T.map (fun r : Rc => W.ref r.s) ++ [W.ref s2']))).nx = h1.nx := rfl
  generalize h1.put ks (.lst (T.map (fun r : Rc => W.ref r.s) ++ [W.ref s2'])) = h2 at K2 gs2 nx2 ⊢
  have gr2 := K2.get gr1 (by omega) (by simpa using n4.symm)
  refine ix_at gr2 s2 ⟨_, gr2, by simp; omega, ?_⟩
  have K3 : Kp [kr] h2 (h2.put kr (.lst (T.map (fun r : Rc => W.ref r.r) ++ [W.ref r.r]))) := Kp.put _ _ (by simp)
  have gr3 : (h2.put kr (.lst (T.map (fun r : Rc => W.ref r.r) ++ [W.ref r.r]))).get kr = _ := Heap.put_same _ _ _
  have nx3 : (h2.put kr (.lst (T.map (fun r : Rc => W.ref r.r) ++ [W.ref r.r]))).nx = h2.nx := rfl
  generalize h2.put kr (.lst (T.map (fun r : Rc => W.ref r.r) ++ [W.ref r.r])) = h3 at K3 gr3 nx3 ⊢
  have K4 : Kp [kr] h3 (h3.new (.lst [])) := Kp.new _ _ _
  have e4 : (h3.new (.lst [])).get h3.nx = _ := Heap.new_same _ _
  have nx4 : (h3.new (.lst [])).nx = h3.nx + 1 := rfl
  have gr4 : (h3.new (.lst [])).get kr = _ := (Heap.new_ne (by omega)).trans gr3
  generalize h3.new (.lst []) = h4 at K4 e4 nx4 gr4 ⊢
  rw [← nx3]
  refine ⟨_, set_at gr4 (by simp; omega), q _ _ (J.app ei (s2 := s2') (e2 := k) (r2 := h3.nx) (K := ?_) a1 b1 (by omega) ne (by omega) (by omega) (by simp; omega) (by simp; omega) (by simp; omega) ?_ ?_ ?_ ?_ ?_ ?_)⟩
  · have K5 : Kp [kr] h4 (h4.put kr (.lst ((T.map (fun r : Rc => W.ref r.r) ++ [W.ref r.r]).set i (.ref h3.nx)))) := Kp.put _ _ (by simp)
    exact (K1.mono (by simp)).trans ((K2.mono (by simp)).trans ((K3.mono (by simp)).trans ((K4.mono (by simp)).trans (K5.mono (by simp)))))
  · rw [Heap.put_ne n4]
    exact K4.get (K3.get gs2 (by omega) (by simpa using n4)) (by omega) (by simpa using n4)
  · rw [Heap.put_same, List.set_append, if_pos (by simpa using il), List.map_set]
  all_goals have kp : ∀ {n : Nat} {o : Ob}, h1.get n = some o → n < h1.nx → n ≠ ks → n ≠ kr → (h4.put kr (.lst ((T.map (fun r : Rc => W.ref r.r) ++ [W.ref r.r]).set i (.ref h3.nx)))).get n = some o := fun {n o} e l x y => by
                rw [Heap.put_ne y]
                exact K4.get (K3.get (K2.get e l (by simpa using x)) (by omega) (by simpa using y)) (by omega) (by simpa using y)
  · exact kp g1 a2 (by omega) (by omega)
  · exact kp g2 (by omega) n8.symm n7
  · exact kp g3 b2 (by omega) (by omega)
  · rw [Heap.put_ne (by omega)]; exact e4

theorem chk_to {ks kr m : Nat} {T : List Rc} {sc t w5 w6 c : W} {a8 a9 a10 a11 a12 : Option W} (J : SJ h d g ks kr m T) (hm : m ≤ 60)
    (q : ∀ h', SJ h' d g ks kr m T → P.nx [some sc, some (.ref d), some (.ref ks), some (.ref kr), some t, some w5, some w6, some c, a8, a9, a10, a11, a12] h') :
    (s_law_14 [some sc, some (.ref d), some (.ref ks), some (.ref kr), some t, some w5, some w6, some c, a8, a9, a10, a11, a12] h).to P := by
  have hz : sizeLine = 16777216 := sizeLine_eq
  have ln := J.len
  unfold s_law_14
  simp [hz, pick, J.gs, -o_ix_int]
  refine ⟨by simp [smallR]; omega, by simp [rangeW]; omega, ?_⟩
  have := comp_inv (t := .one 12) (g := []) (ls := wipeL [some sc, some (.ref d), some (.ref ks), some (.ref kr), some t, some w5, some w6, some c, a8, a9, a10, a11, a12] [12])
    (cond := bNot (bTru (eCall (fun xs ys h => F__law_is_so (pick [(false, 0), (false, 1)] xs ys) h) 2 0 (aCons (eBin wIx (eVar 2) (eVar 12)) (aCons (eBin wIx (eVar 3) (eVar 12)) (aNil))) (aNil)))) (elt := eVar 12)
    (Q := fun acc h' => acc = [] ∧ Kp [] h h') (fun xs acc h' => acc = [] ∧ Kp [] h h' ∧ ∀ x ∈ xs, ∃ j : Nat, x = .int j ∧ j < T.length) (rangeW 0 T.length) [] h ⟨rfl, Kp.refl _ _, ?_⟩ ?_ ?_
  · refine Rs.to_mono this ?_ fun _ _ _ z => z
    rintro w h' ⟨e, K⟩
    simp only [List.nil_append] at e
    subst e
    have J' := (J.kp (K.mono (by simp)) (J.D.kp K) (Nat.le_refl _)).kp (Kp.new [d, g] h' (.lst [])) ((J.D.kp K).new _) (Nat.le_refl _)
    have J2 := J'.kp (Kp.new [d, g] _ (.lst [])) (J'.D.new _) (Nat.le_refl _)
    refine .inr ⟨?_, q _ J2⟩
    have e := eq_nil (h := (h'.new (.lst [])).new (.lst [])) ((Heap.new_ne (by simp)).trans (Heap.new_same h' (.lst []))) (Heap.new_same (h'.new (.lst [])) (.lst []))
    simpa using e
  · intro x m
    unfold rangeW at m
    obtain ⟨j, mj, rfl⟩ := List.mem_map.mp m
    have := List.mem_range.mp mj
    exact ⟨j, by simp, by omega⟩
  · rintro x xs acc h1 ⟨rfl, K, hx⟩
    obtain ⟨j, rfl, jl⟩ := hx x (by simp)
    obtain ⟨r, er⟩ : ∃ r, T[j]? = some r := ⟨T[j], List.getElem?_eq_getElem jl⟩
    have J1 := J.kp (K.mono (by simp)) (J.D.kp K) (Nat.le_refl _)
    obtain ⟨s1, s2⟩ := J1.sAt er
    have ro := J1.rc j r er
    refine ⟨rfl, _, rfl, ?_⟩
    simp [wipeL, pick, -o_ix_int]
    refine ix_at J1.gs s1 (ix_at J1.gr s2 ?_)
    refine so_to ro.gs ro.ge ro.gr ro.ls ro.le ro.lr ro.ok (by have := ro.ln; omega) fun h2 K2 => ?_
    exact ⟨rfl, K.trans K2, fun x m => hx x (List.mem_cons_of_mem _ m)⟩
  · rintro acc h1 ⟨rfl, K, _⟩
    exact ⟨rfl, rfl, K⟩
theorem turn_to {ks kr m t : Nat} {T : List Rc} {sc : W} {a5 a6 a7 a8 a9 a10 a11 a12 : Option W} (J : SJ h d g ks kr m T) (hm : m ≤ 50) (ht : t < 100)
    (q : ∀ h' T' a5 a6 a7 a8 a9 a10, SJ h' d g ks kr (m + 1) T' → P.nx [some sc, some (.ref d), some (.ref ks), some (.ref kr), some (.int t), a5, a6, a7, a8, a9, a10, a11, a12] h') :
    ((sSeq s_law_12 (sSeq s_law_13 s_law_14)) [some sc, some (.ref d), some (.ref ks), some (.ref kr), some (.int t), a5, a6, a7, a8, a9, a10, a11, a12] h).to P := by
  have hz : sizeLine = 16777216 := sizeLine_eq
  have ln := J.len
  have pos := J.pos
  rw [s_seq']
  unfold s_law_12
  simp [pick, J.gs, -o_ix_int]
  refine nxt_to J.D (by omega) (by omega) fun r1 h1 r10 r11 D1 K1 => ?_
  have J1 := J.kp K1 D1 (Nat.le_refl _)
  refine nxt_to D1 (by omega) (by omega) fun r2 h2 r20 r21 D2 K2 => ?_
  have J2 := J1.kp K2 D2 (Nat.le_refl _)
  refine leaver_to D2 fun h3 c K3 D3 hc => ?_
  have J3 := J2.kp K3 D3 (Nat.le_refl _)

  obtain ⟨i, rfl⟩ : ∃ i : Nat, r1 = i := ⟨r1.toNat, by omega⟩
  obtain ⟨r, er⟩ : ∃ r, T[i]? = some r := ⟨T[i]'(by omega), List.getElem?_eq_getElem _⟩
  obtain ⟨w, cr, rfl, hw⟩ : ∃ w cr, c = .tup (.str w :: cr) ∧ w ∈ words := by
    simp only [calls, List.mem_cons, List.not_mem_nil, or_false] at hc
    rcases hc with rfl | rfl | rfl | rfl | rfl <;> exact ⟨_, _, rfl, by decide⟩
  unfold s_law_13
  simp only [s_if', y_val, x_bin, x_var, x_w, o_lt_int]
  refine ⟨_, rfl, _, rfl, fun _ => ?_, fun _ => ?_⟩
  · exact brA J3 er ht (by omega) hc hw fun h' T' a8 J' => chk_to J' (by omega) fun h2 J2 => q _ _ _ _ _ _ _ _ J2
  refine ⟨_, rfl, ?_⟩
  simp only [o_eq]
  refine ⟨_, eqO_int, _, rfl, fun _ => ?_, fun _ => ?_⟩
  · exact brB J3 er (by omega) fun h' a9 J' => chk_to J' (by omega) fun h2 J2 => q _ _ _ _ _ _ _ _ J2
  refine ⟨_, rfl, _, rfl, fun _ => ?_, fun _ => ?_⟩
  · exact brC J3 er (by omega) fun h' T' a10 J' => chk_to J' (by omega) fun h2 J2 => q _ _ _ _ _ _ _ _ J2
  · exact brD J3 er (by omega) fun h' T' J' => chk_to J' (by omega) fun h2 J2 => q _ _ _ _ _ _ _ _ J2
structure JL (h : Ev.Heap) (d g ks kr : Nat) (sc : W) (tot : Nat) (xs : List W) (ls : Ls) (h' : Ev.Heap) : Prop where
  of : ∃ (m : Nat) (T : List Rc) (a4 a5 a6 a7 a8 a9 a10 a11 a12 : Option W), xs = rangeW (m : Int) (tot : Int) ∧ m ≤ tot ∧ SJ h' d g ks kr m T ∧ ls = [some sc, some (.ref d), some (.ref ks), some (.ref kr), a4, a5, a6, a7, a8, a9, a10, a11, a12]
theorem rangeW_cons' {i n : Nat} (h : i < n) : rangeW (i : Int) (n : Int) = .int (i : Int) :: rangeW ((i + 1 : Nat) : Int) (n : Int) := by
  unfold rangeW
  rw [show ((n : Int) - (i : Int)).toNat = ((n : Int) - ((i + 1 : Nat) : Int)).toNat + 1 by omega, List.range_succ_eq_map, List.map_cons, List.map_map]
  refine congr (congrArg List.cons (by simp)) (List.map_congr_left fun a _ => ?_)
  simp only [Function.comp]
  congr 1
  omega
theorem mkst_to (q : ∀ h', Kp [] h h' → h'.nx = h.nx + 2 → h'.get h.nx = some (.ins 3 [(39, .ref (h.nx + 1))]) → h'.get (h.nx + 1) = some (.lst []) → Q (.ref h.nx) h') : (mkObj 3 F_EntryStack___init__ (pick [(false, 0)]) [] [] h).to Q E := by
  rw [mk_to']
  unfold F_EntryStack___init__ s_EntryStack___init__
  simp [pick, Heap.new_get]
  refine q _ ⟨by simp; omega, fun j lj _ => ?_⟩ rfl (by simp [Heap.put_get, fPut]) (by simp [Heap.put_get, Heap.new_get])
  have j0 : j ≠ h.nx := Nat.ne_of_lt lj
  have j1 : j ≠ h.nx + 1 := by omega
  simp [Heap.new_get, Heap.put_get, j0, j1]
theorem rangeW_nil' {n : Nat} : rangeW (n : Int) (n : Int) = [] := by unfold rangeW; simp
end
def PE : Po := ⟨fun _ _ => W.non = .bl true, fun w _ => w = .bl true, fun _ _ => False, fun _ _ => False, fun _ _ _ _ => False⟩
section
variable {h : Ev.Heap} {d g : Nat}
theorem tail_to {ls : Ls} {h7 hh : Ev.Heap} {ks kr tot : Nat} {sc : W} (j : JL h7 d g ks kr sc tot [] ls hh) : ((sSeq s_law_18 (sSeq s_law_19 s_law_20)) ls hh).to PE := by
  have hz : sizeLine = 16777216 := sizeLine_eq
  obtain ⟨m, T, a4, a5, a6, a7, a8, a9, a10, a11, a12, _, _, _, rfl⟩ := j
  unfold s_law_18 s_law_19 s_law_20
  simp [pick]
  refine mkst_to fun h8 K8 n8 c1 c2 => ?_
  refine ⟨_, rfl, _, c1, rfl, by rw [hz]; decide, ?_⟩
  refine add_ok c1 c2 (by omega) (by simp) ?_
  have eo : ∀ x ∈ [W.tup [.int 7, .tup [.str "null"]]], EnOk x := fun x m => by
    simp at m
    subst m
    exact ⟨7, "null", [], rfl, by omega, by decide, by simp [calls], by decide⟩
  have c3 : (h8.put (hh.nx + 1) (.lst [W.tup [.int 7, .tup [.str "null"]]])).get (hh.nx + 1) = _ := Heap.put_same _ _ _
  have c4 : (h8.put (hh.nx + 1) (.lst [W.tup [.int 7, .tup [.str "null"]]])).get hh.nx = _ := (Heap.put_ne (by omega)).trans c1
  have n9 : (h8.put (hh.nx + 1) (.lst [W.tup [.int 7, .tup [.str "null"]]])).nx = h8.nx := rfl
  simp only [List.nil_append]
  generalize h8.put (hh.nx + 1) (.lst [W.tup [.int 7, .tup [.str "null"]]]) = h9 at c3 c4 n9 ⊢
  refine ⟨_, rfl, ⟨_, c4⟩, ?_⟩
  refine numbers_to c4 c3 eo (by simp) ?_
  have c5 : (h9.new (.lst [.int 7])).get hh.nx = _ := (Heap.new_ne (by omega)).trans c4
  have c6 : (h9.new (.lst [.int 7])).get (hh.nx + 1) = _ := (Heap.new_ne (by omega)).trans c3
  have q1 : ∀ hx : Ev.Heap, eqO hx (.tup [.int 7]) (.tup [.int 7]) = some true := fun hx => eqO_same (d := .tuple [.int 7]) rfl rfl (DOk.tuple (w := 40) (n := 0) fun d m => by
    simp at m
    rw [m]; exact DOk.int (by decide)) (by decide)
  have q2 : ∀ hx : Ev.Heap, eqO hx (.tup [.str "null"]) (.tup [.str "null"]) = some true := fun hx => eqO_same (d := .tuple [.str "null"]) rfl rfl (DOk.tuple (w := 4) (n := 0) fun d m => by
    simp at m
    rw [m]; exact (DOk.str (s := "null") (by decide +kernel) (by decide +kernel)).mono (by decide +kernel) (by omega)) (by decide)
  refine ⟨by rw [hz]; decide, .inr ⟨q1 _, _, rfl, ⟨_, c5⟩, ?_⟩⟩
  refine words_to c5 c6 eo (by simp) ⟨by rw [hz]; decide, .inr ⟨q2 _, rfl⟩⟩
end
theorem plain (ns : List Int) (hl : ns.length ≤ 63) : ∃ h', F_law [scriptW ns] h0 = .ok (.bl true) h' := by
  have hz : sizeLine = 16777216 := sizeLine_eq
  have : (F_law [scriptW ns] h0).to (fun w _ => w = .bl true) (fun _ _ _ => False) := by
    unfold F_law s_law
    rw [fn_to]
    refine ⟨rfl, ?_⟩
    show ((sSeq s_law_15 (sSeq s_law_16 (sSeq s_law_17 (sSeq s_law_18 (sSeq s_law_19 s_law_20))))) [some (scriptW ns), none, none, none, none, none, none, none, none, none, none, none, none] h0).to PE
    generalize hT : sSeq s_law_18 (sSeq s_law_19 s_law_20) = T
    generalize hL : s_law_17 = L
    unfold s_law_15 s_law_16
    rw [begun_eq]
    simp [pick]
    refine begun_to hl (q := fun d g h1 D1 K1 d1 g1 => ?_)
    have ld := D1.ld
    have lg := D1.lg
    refine mkst_to fun h2 K2 n2 a1 a2 => ?_
    refine mkst_to fun h3 K3 n3 b1 b2 => ?_
    refine ⟨by omega, ?_⟩
    rw [n2]
    obtain ⟨h7, e7⟩ : ∃ h7, h7 = (((h3.new (.lst [.ref h1.nx, .ref (h1.nx + 2)])).new (.lst [])).new (.lst [])).new (.lst [.ref (h3.nx + 1), .ref (h3.nx + 1 + 1)]) := ⟨_, rfl⟩
    have n7 : h7.nx = h1.nx + 8 := by rw [e7]; simp; omega
    have K7 : Kp [] h3 h7 := by rw [e7]; exact (((Kp.new _ _ _).trans (Kp.new _ _ _)).trans (Kp.new _ _ _)).trans (Kp.new _ _ _)
    have D7 : Drw "run" h7 d g := (((D1.kp K2).kp K3).kp K7)
    have g1 : h7.get (h1.nx + 4) = some (.lst [.ref h1.nx, .ref (h1.nx + 2)]) := by rw [e7]; simp [Heap.new_get]; rw [if_neg (by omega), if_neg (by omega), if_neg (by omega), if_pos (by omega)]
    have g2 : h7.get (h1.nx + 5) = some (.lst []) := by rw [e7]; simp [Heap.new_get]; rw [if_neg (by omega), if_neg (by omega), if_pos (by omega)]
    have g3 : h7.get (h1.nx + 6) = some (.lst []) := by rw [e7]; simp [Heap.new_get]; rw [if_neg (by omega), if_pos (by omega)]
    have g4 : h7.get (h1.nx + 7) = some (.lst [.ref (h1.nx + 5), .ref (h1.nx + 6)]) := by rw [e7]; simp [Heap.new_get]; rw [if_pos (by omega)]; simp; omega
    have g5 : h7.get h1.nx = _ := K7.get (K3.get a1 (by omega) (by simp)) (by omega) (by simp)
    have g6 : h7.get (h1.nx + 1) = _ := K7.get (K3.get a2 (by omega) (by simp)) (by omega) (by simp)
    rw [n2] at b1 b2
    have g7 : h7.get (h1.nx + 2) = _ := K7.get b1 (by omega) (by simp)
    have g8 : h7.get (h1.nx + 3) = _ := K7.get b2 (by omega) (by simp)
    have J : SJ h7 d g (h1.nx + 4) (h1.nx + 7) 0 [⟨h1.nx, h1.nx + 1, h1.nx + 5, []⟩, ⟨h1.nx + 2, h1.nx + 3, h1.nx + 6, []⟩] := by
      refine ⟨D7, g1, g4, by omega, by omega, fun i r e => ?_, ⟨fun x => if x = d then 0 else if x = g then 1 else if x = h1.nx + 4 then 2 else if x = h1.nx + 7 then 3 else if x = h1.nx then 4 else if x = h1.nx + 1 then 5 else if x = h1.nx + 5 then 6 else if x = h1.nx + 2 then 7 else if x = h1.nx + 3 then 8 else 9, ?_, ?_, ?_, ?_, fun i r e => ?_⟩, by simp, by simp⟩
      · match i, e with
        | 0, e => simp at e; subst e; exact ⟨g5, g6, g2, by simp; omega, by simp; omega, by simp; omega, by simp, by simp⟩
        | 1, e => simp at e; subst e; exact ⟨g7, g8, g3, by simp; omega, by simp; omega, by simp; omega, by simp, by simp⟩
        | i + 2, e => simp at e
      · simp
      · have := D1.ne; simp only [if_true]; rw [if_neg (by omega)]
      · simp only [if_true]; rw [if_neg (by omega), if_neg (by omega)]
      · simp only [if_true]; rw [if_neg (by omega), if_neg (by omega), if_neg (by omega)]
      · match i, e with
        | 0, e =>
          simp at e; subst e
          simp only [if_true]
          refine ⟨?_, ?_, ?_⟩
          · rw [if_neg (by omega), if_neg (by omega), if_neg (by omega), if_neg (by omega)]
          · rw [if_neg (by omega), if_neg (by omega), if_neg (by omega), if_neg (by omega), if_neg (by omega)]
          · rw [if_neg (by omega), if_neg (by omega), if_neg (by omega), if_neg (by omega), if_neg (by omega), if_neg (by omega)]
        | 1, e =>
          simp at e; subst e
          simp only [if_true]
          refine ⟨?_, ?_, ?_⟩
          · rw [if_neg (by omega), if_neg (by omega), if_neg (by omega), if_neg (by omega), if_neg (by omega), if_neg (by omega), if_neg (by omega)]
          · rw [if_neg (by omega), if_neg (by omega), if_neg (by omega), if_neg (by omega), if_neg (by omega), if_neg (by omega), if_neg (by omega), if_neg (by omega)]
          · rw [if_neg (by omega), if_neg (by omega), if_neg (by omega), if_neg (by omega), if_neg (by omega), if_neg (by omega), if_neg (by omega), if_neg (by omega), if_neg (by omega)]
        | i + 2, e => simp at e
    rw [show h3.nx + 1 + 1 + 1 = h1.nx + 7 by omega, show h3.nx = h1.nx + 4 by omega] at *
    rw [← e7]
    clear e7
    subst hL hT
    generalize hT : sSeq s_law_18 (sSeq s_law_19 s_law_20) = T
    generalize hB : sSeq s_law_12 (sSeq s_law_13 s_law_14) = B
    unfold s_law_17
    rw [hB]
    simp [scriptW]
    obtain ⟨tot, et, lt⟩ : ∃ tot : Nat, (24 + if (ns.length : Int) < 24 then (ns.length : Int) else 24) = (tot : Int) ∧ tot ≤ 48 := by
      split
      · exact ⟨24 + ns.length, by omega, by omega⟩
      · exact ⟨48, by omega, by omega⟩
    rw [et]
    refine ⟨by simp [smallR]; omega, ?_⟩
    subst hB hT
    refine for_inv (JL h7 d g (h1.nx + 4) (h1.nx + 7) (scriptW ns) tot) _ _ _ ⟨0, _, none, none, none, none, none, none, none, none, none, rfl, by omega, J, rfl⟩ ?_ ?_
    · rintro x xs ls hh ⟨m, T, a4, a5, a6, a7, a8, a9, a10, a11, a12, e, lm, J2, rfl⟩
      have ml : m < tot := by
        rcases Nat.lt_or_ge m tot with z | z
        · exact z
        · have : m = tot := by omega
          rw [this, rangeW_nil'] at e
          cases e
      rw [rangeW_cons' ml] at e
      cases e
      refine ⟨rfl, _, rfl, ?_⟩
      exact turn_to J2 (by omega) (by omega) fun h' T' a5 a6 a7 a8 a9 a10 J3 => ⟨m + 1, T', _, a5, a6, a7, a8, a9, a10, a11, a12, rfl, by omega, J3, rfl⟩
    · rintro ls hh j
      exact ⟨rfl, tail_to j⟩
  obtain ⟨w, h', e, rfl⟩ | ⟨c, fs, h', e, z⟩ := to_iff.mp this
  · exact ⟨h', e⟩
  · exact z.elim
end K47
set_option maxRecDepth 100000
set_option maxHeartbeats 0
namespace K47
open PySem L2 Ev PyProof.Rows
def hk : PySem.W.Hook := hookT 7 facts fns tabs
def ob (s : PySem.W.SharedT) : AlT := obsTG 7 facts fns tabs (HandSHeadRun.getT s)
theorem ob_eq (s : PySem.W.SharedT) : ob s = hk.obs s.abs := obsTG_eq (fc := facts) (HandSHeadRun.getT_eq s)
abbrev Rw : PySem.W.OpenRow := PySem.W.OpenLaw.row PySem.Challenge.rw_exitstacks_k47_entry_stacks
def loose : List Str := (["__name__", "ModelError", "BadNumber", "Absent", "NoPlace", "EntryStack", "_law_begun", "_law_next", "_law_refused", "_law_taken", "_law_leaver", "_law_is_so"] : List Str)
def setB (b : Bool) (P : Params) : Params := { P with followText := fun s => bif s == "special-get-raises" then b else P.followText s }
theorem setB_eq {b : Bool} {P : Params} (h : P.followText "special-get-raises" = b) : setB b P = P := by
  have e : (fun s => bif s == "special-get-raises" then b else P.followText s) = P.followText := by
    funext s
    by_cases z : s = "special-get-raises"
    · subst z; exact h.symm
    · have e : (s == "special-get-raises") = false := beq_false_of_ne z
      rw [e]; rfl
  unfold setB
  rw [e]
theorem run1 (b : Bool) (w : World) : HandSHeadRun.RunEq Rw (PySem.W.view Rw.prog [14]) hk ob 20000 loose { w with params := setB b w.params } := by
  cases b <;> (intro os; kernel_rfl)
theorem run (w : World) : HandSHeadRun.RunEq Rw (PySem.W.view Rw.prog [14]) hk ob 20000 loose w := by
  have := run1 (w.params.followText "special-get-raises") w
  rw [setB_eq rfl] at this
  exact this
theorem found (w : World) (mg : Str → Option Value) (fa : Addr) (h : PySem.Heap) (Y : hk.says w h) (G : h.Ns mainGlobals mg) (hm : mg "law" = some (.ref fa)) :
    ∃ (K : PySem.W.Frag) (fd : FuncData) (Nn : Nm), K.In h ∧ (∀ (s : Shared) (u : Value), BindsTo s fd ⟨[u], []⟩ [("_law_script", u)]) ∧
      ∀ base : PySem.Heap, K.In base → base.Ns mainGlobals mg → FG Prog w K mg base 5 fa fd ["_law_script"] (LSp K Nn F_law) := by
  obtain ⟨K, KX, c⟩ := Y
  have gs := gs_of KX G c c.c
  obtain rfl : fa = He.ga K "law" := by have := gs.m_law; rw [hm] at this; cases this; rfl
  obtain ⟨fd, h2⟩ := gs.d_law
  refine ⟨K, fd, nm K, KX, fun s u => ?_, fun base _ _ => ?_⟩
  · exact FunD.bindsA (ps := ["_law_script"]) h2 (fun _ _ _ _ _ _ us hl => match us, hl with | [_], _ => rfl) s [u] rfl
  · obtain ⟨fd', q2, q3⟩ := (D_law (P := Prog) (w := w) (base := base) gs).ex
    obtain ⟨_, _, _, _, _, _, _, _, _, _, e1, l1, _⟩ := h2.ex
    obtain ⟨_, _, _, _, _, _, _, _, _, _, e2, l2, _⟩ := q2.ex
    rw [l1] at l2
    cases l2
    exact q3
end K47
open PySem PySem.W PySem.Calls PyProof.Rows
theorem PySem.Challenge.cw_exitstacks_k47_entry_stacks_holds : PySem.Challenge.rw_exitstacks_k47_entry_stacks.Holds := by
  w_on; o_law
  refine HandSHeadRun.head_any (r := OpenLaw.row PySem.Challenge.rw_exitstacks_k47_entry_stacks) (q := view (OpenLaw.row PySem.Challenge.rw_exitstacks_k47_entry_stacks).prog [14]) (H := K47.hk) (ob := K47.ob) (M := 20000) (loose := K47.loose) (d := HandSHeadRun.topDef (OpenLaw.row PySem.Challenge.rw_exitstacks_k47_entry_stacks).prog 14) (kwd := []) K47.ob_eq
    (by kernel_rfl) (fun s => by kernel_rfl) K47.run (by kernel_rfl) (by kernel_rfl) (by kernel_rfl) (by rfl) (by first | assumption | decide +kernel) (by decide +kernel) ⟨rfl, rfl, rfl, rfl, rfl, by decide +kernel⟩ ?hw ?hc
  case hw => w_witness2
  case hc =>
    refine Ev.walk_ev (l := PySem.Challenge.rw_exitstacks_k47_entry_stacks) (n := 63) (k := 5) (x := "_law_script") (G := K47.F_law) rfl (by decide) (by kernel_rfl) ⟨rfl, by decide, by decide⟩ K47.plain ?F
    intro w mg fa h Y G hmg0
    have hmg : mg ("law" : PySem.Str) = some (.ref fa) := by
      have e : (HandSHeadRun.topDef (OpenLaw.row PySem.Challenge.rw_exitstacks_k47_entry_stacks).prog 14).name = ("law" : PySem.Str) := by kernel_rfl
      rw [← e]
      exact hmg0
    exact K47.found w mg fa h Y G hmg
