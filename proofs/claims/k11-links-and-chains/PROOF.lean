import PyProof.Rows.All
import Wide.All
import OpenK.AllK
import Wide.FinOn
import HandS.ForMost
import HandS.ForExc
import HandS.Flow
import HandS.TupAny
import HandS.Codes
import HandS.TupMul
import HandS.Walk
import HandS.Zip
import HandS.Property
import HandS.Defaults
import HandS.CallSlots
import HandS.MakeKwOnly
import HandS.Ends
import HandS.HeadHook2
import HandS.HeadEnd
import HandS.Style
import HandS.Text
import HandS.IsInst
import HandS.Deep
import HandS.RaiseMore
import PyProof.FString5
import PyProof.NeKinds
import PyProof.Rows.ReprR
import HandS.More
import PyProof.InstEq
import HandS.SetFor
import HandS.Star
import HandS.HeadHook3
import PyProof.ReprLen
import PyProof.P3Eq
import KE.KxAffix
import HandS.FStr
import HandS.Conv
import OpenK.KMeth
import OpenK.KOps
import HandS.GenList
import HandS.Head0
import HandS.Head1
import HandS.Head2
import PySem.Challenge.RW_exitstacks_k11_whole_links_and_chains
set_option Elab.async false
set_option linter.all false
set_option maxRecDepth 100000
/-! EvBase: values W, heaps, results; how they stand to HandS's values and abstract heaps; the lifting of semantic functions to readings. -/
namespace L2
open PySem
theorem PE.imp {X : Cx} {e : PySem.Expr} {t t' : TE} (h : PE X e t) (i : ∀ σ H Q, t' σ H Q → t σ H Q) : PE X e t' := ⟨fun pins s σ H Q I q => h.run pins s σ H Q I (i σ H Q q)⟩
theorem PA.imp {X : Cx} {e : List PySem.Expr} {t t' : TA} (h : PA X e t) (i : ∀ σ H Q, t' σ H Q → t σ H Q) : PA X e t' := ⟨fun pos pins s σ H Q I q => h.run pos pins s σ H Q I (i σ H Q q)⟩
theorem PT.imp {X : Cx} {e : PySem.Expr} {t t' : TT} (h : PT X e t) (i : ∀ σ H Q, t' σ H Q → t σ H Q) : PT X e t' := ⟨fun pins s σ H Q I q => h.run pins s σ H Q I (i σ H Q q)⟩
theorem PS.imp {X : Cx} {e : PySem.Stmt} {t t' : TS} (h : PS X e t) (i : ∀ D σ H, t' D σ H → t D σ H) : PS X e t' := ⟨fun pins s σ H D I q => h.run pins s σ H D I (i D σ H q)⟩
theorem PSs.imp {X : Cx} {e : List PySem.Stmt} {t t' : TS} (h : PSs X e t) (i : ∀ D σ H, t' D σ H → t D σ H) : PSs X e t' := ⟨fun pins s σ H D I q => h.run pins s σ H D I (i D σ H q)⟩
theorem PW.imp {X : Cx} {e : PySem.Expr} {t t' : TT} (h : PW X e t) (i : ∀ σ H Q, t' σ H Q → t σ H Q) : PW X e t' := ⟨fun wh pins s σ H Q I q => h.run wh pins s σ H Q I (i σ H Q q)⟩
end L2
namespace Ev
open PySem L2

/-- a value as the mathematics sees it: tuples (and lists that never change) by what they hold, other objects by their number -/
inductive W where
  | non | bl (b : Bool) | int (i : Int) | str (s : Str) | tup (xs : List W) | fl (xs : List W) | ref (n : Nat) | gl (a : Addr) | ty (t : String)

/-- an object of the mathematics' heap; attributes and classes by numbers -/
inductive Ob where
  | lst (xs : List W)
  | dct (kvs : List (Key × W))
  | ins (c : Nat) (fs : List (Nat × W))
  /-- an exception's own fields -/
  | xdt (fs : List (Nat × W))
  /-- a caught exception: its class, where its fields stand -/
  | exc (c : Nat) (m : Option Nat)

structure Heap where
  nx : Nat
  get : Nat → Option Ob
namespace Heap
def put (h : Heap) (n : Nat) (o : Ob) : Heap := ⟨h.nx, fun m => if m = n then some o else h.get m⟩
def new (h : Heap) (o : Ob) : Heap := ⟨h.nx + 1, fun m => if m = h.nx then some o else h.get m⟩
@[simp] theorem put_nx (h : Heap) (n : Nat) (o : Ob) : (h.put n o).nx = h.nx := rfl
@[simp] theorem new_nx (h : Heap) (o : Ob) : (h.new o).nx = h.nx + 1 := rfl
theorem put_get (h : Heap) (n m : Nat) (o : Ob) : (h.put n o).get m = if m = n then some o else h.get m := rfl
theorem new_get (h : Heap) (m : Nat) (o : Ob) : (h.new o).get m = if m = h.nx then some o else h.get m := rfl
@[simp] theorem put_same (h : Heap) (n : Nat) (o : Ob) : (h.put n o).get n = some o := by simp [put_get]
@[simp] theorem new_same (h : Heap) (o : Ob) : (h.new o).get h.nx = some o := by simp [new_get]
theorem put_ne {h : Heap} {n m : Nat} {o : Ob} (e : m ≠ n) : (h.put n o).get m = h.get m := by simp [put_get, e]
theorem new_ne {h : Heap} {m : Nat} {o : Ob} (e : m ≠ h.nx) : (h.new o).get m = h.get m := by simp [new_get, e]
end Heap

/-- how an expression ends: a value; an exception (its class, its fields); or not at all (no rule) -/
inductive R where
  | ok (w : W) (h : Heap)
  | exc (c : Nat) (fs : List (Nat × W)) (h : Heap)
  | bad
def R.bind (r : R) (k : W → Heap → R) : R := match r with
  | .ok w h => k w h
  | .exc c fs h => .exc c fs h
  | .bad => .bad
@[simp] theorem R.bind_ok (w : W) (h : Heap) (k : W → Heap → R) : (R.ok w h).bind k = k w h := rfl
@[simp] theorem R.bind_exc (c : Nat) (fs : List (Nat × W)) (h : Heap) (k : W → Heap → R) : (R.exc c fs h).bind k = .exc c fs h := rfl
@[simp] theorem R.bind_bad (k : W → Heap → R) : R.bad.bind k = .bad := rfl
theorem R.bind_assoc (r : R) (k k' : W → Heap → R) : (r.bind k).bind k' = r.bind fun w h => (k w h).bind k' := by cases r <;> rfl

/-- how a list of expressions ends -/
inductive Rs where
  | ok (ws : List W) (h : Heap)
  | exc (c : Nat) (fs : List (Nat × W)) (h : Heap)
  | bad
def Rs.bind (r : Rs) (k : List W → Heap → R) : R := match r with
  | .ok w h => k w h
  | .exc c fs h => .exc c fs h
  | .bad => .bad
@[simp] theorem Rs.bind_ok (w : List W) (h : Heap) (k : List W → Heap → R) : (Rs.ok w h).bind k = k w h := rfl
@[simp] theorem Rs.bind_exc (c : Nat) (fs : List (Nat × W)) (h : Heap) (k : List W → Heap → R) : (Rs.exc c fs h).bind k = .exc c fs h := rfl
@[simp] theorem Rs.bind_bad (k : List W → Heap → R) : Rs.bad.bind k = .bad := rfl

/-- a test's end -/
inductive Rb where
  | ok (b : Bool) (h : Heap)
  | exc (c : Nat) (fs : List (Nat × W)) (h : Heap)
  | bad

abbrev Ls := List (Option W)
abbrev SE := Ls → Heap → R
abbrev SEs := Ls → Heap → Rs
abbrev SB := Ls → Heap → Rb

/-- how a statement ends -/
inductive SR where
  | nx (ls : Ls) (h : Heap)
  | rt (w : W) (h : Heap)
  | bk (ls : Ls) (h : Heap)
  | ct (ls : Ls) (h : Heap)
  | exc (c : Nat) (fs : List (Nat × W)) (ls : Ls) (h : Heap)
  | bad
abbrev SS := Ls → Heap → SR

/-- names: the classes' places, the attributes' names -/
structure Nm where
  ca : Nat → Addr
  an : Nat → Str
  inj : ∀ i j, an i = an j → i = j
/-- names by a table -/
def anOf (tab : List Str) (i : Nat) : Str := match tab[i]? with
  | some s => s
  | none => ⟨#[1114112 + i]⟩
theorem anOf_inj {tab : List Str} (h1 : tab.Nodup) (h2 : (tab.all fun s => s.cps.all fun c => decide (c < 1114112)) = true) (i j : Nat) (e : anOf tab i = anOf tab j) : i = j := by
  have lo : ∀ {k : Nat} {s : Str} {m : Nat}, tab[k]? = some s → s ≠ ⟨#[1114112 + m]⟩ := by
    intro k s m hk q
    have hs := List.all_eq_true.mp h2 s (List.mem_of_getElem? hk)
    rw [q] at hs
    simp at hs
    omega
  unfold anOf at e
  cases hi : tab[i]? with
  | some s =>
    cases hj : tab[j]? with
    | some t =>
      rw [hi, hj] at e
      simp only at e
      subst e
      obtain ⟨l1, e1⟩ := List.getElem?_eq_some_iff.mp hi
      obtain ⟨l2, e2⟩ := List.getElem?_eq_some_iff.mp hj
      exact (List.getElem_inj h1).mp (e1.trans e2.symm)
    | none => rw [hi, hj] at e; exact (lo hi e).elim
  | none =>
    cases hj : tab[j]? with
    | some t => rw [hi, hj] at e; exact (lo hj e.symm).elim
    | none =>
      rw [hi, hj] at e
      simp at e
      omega

/-- a list that is never written: locked, or of the module -/
def SqF (K : PySem.W.Frag) (H : Hp) (a : Addr) (xs : List V) : Prop :=
  (∃ o, H a = some (.frz o (.lst xs))) ∨
    ∃ (o : Obj) (its : Array Value) (n : Nat), K.lookup a = some o ∧ o.cls = .type "list" ∧ o.dict = none ∧ o.data = .seq its n ∧ its.size ≤ sizeLine ∧ Vals xs its.toList
theorem SqF.sq {K : PySem.W.Frag} {H : Hp} {a : Addr} {xs : List V} (h : SqF K H a xs) : SqL K H a xs := h.elim (fun ⟨o, h⟩ => .inl (.inr ⟨o, h⟩)) .inr
mutual
/-- w is the value v, the heap's objects standing at ρ -/
inductive VR (K : PySem.W.Frag) (ρ : List Addr) (H : Hp) : W → V → Prop
  | non : VR K ρ H .non .non
  | bl (b : Bool) : VR K ρ H (.bl b) (.bl b)
  | int (i : Int) : VR K ρ H (.int i) (.int i)
  | str (s : Str) : VR K ρ H (.str s) (.str s)
  | tup {xs : List W} {ys : List V} {a : Addr} : SqT K H a ys → VRs K ρ H xs ys → VR K ρ H (.tup xs) (.ref a)
  | fl {xs : List W} {ys : List V} {a : Addr} : SqF K H a ys → VRs K ρ H xs ys → VR K ρ H (.fl xs) (.ref a)
  | ref {n : Nat} {a : Addr} : ρ[n]? = some a → VR K ρ H (.ref n) (.ref a)
  | gl (a : Addr) : VR K ρ H (.gl a) (.ref a)
  | ty (t : String) : VR K ρ H (.ty t) (.ty t)
inductive VRs (K : PySem.W.Frag) (ρ : List Addr) (H : Hp) : List W → List V → Prop
  | nil : VRs K ρ H [] []
  | cons {x : W} {y : V} {xs : List W} {ys : List V} : VR K ρ H x y → VRs K ρ H xs ys → VRs K ρ H (x :: xs) (y :: ys)
end

/-- tuples and locked things stay -/
structure HE (H H' : Hp) : Prop where
  tup : ∀ a xs, Rd H a (.tup xs) → Rd H' a (.tup xs)
  frz : ∀ a o xs, H a = some (.frz o (.lst xs)) → H' a = some (.frz o (.lst xs))
theorem HE.refl (H : Hp) : HE H H := ⟨fun _ _ h => h, fun _ _ _ h => h⟩
theorem HE.trans {H H1 H2 : Hp} (a : HE H H1) (b : HE H1 H2) : HE H H2 := ⟨fun _ _ h => b.tup _ _ (a.tup _ _ h), fun _ _ _ h => b.frz _ _ _ (a.frz _ _ _ h)⟩
/-- a new object -/
theorem HE.new {H : Hp} {p : Addr} {o : HO} (h : H p = none) : HE H (upd H p o) where
  tup := fun a xs q => by
    have ne : a ≠ p := by
      rintro rfl
      rcases q with q | ⟨_, q⟩ <;> (rw [h] at q; cases q)
    rcases q with q | ⟨u, q⟩
    · exact .inl (by rw [upd_ne ne]; exact q)
    · exact .inr ⟨u, by rw [upd_ne ne]; exact q⟩
  frz := fun a ob xs q => by rw [upd_ne (ne_of_none q h)]; exact q
/-- a changed object that is no tuple and not locked -/
theorem HE.upd {H : Hp} {p : Addr} {o u : HO} (h : H p = some u) (h1 : ∀ xs, u ≠ .tup xs) (h2 : ∀ ob v, u ≠ .frz ob v) : HE H (upd H p o) where
  tup := fun a xs q => by
    have ne : a ≠ p := by
      rintro rfl
      rcases q with q | ⟨ob, q⟩
      · rw [h] at q; cases q; exact h1 _ rfl
      · rw [h] at q; cases q; exact h2 _ _ rfl
    rcases q with q | ⟨u, q⟩
    · exact .inl (by rw [upd_ne ne]; exact q)
    · exact .inr ⟨u, by rw [upd_ne ne]; exact q⟩
  frz := fun a ob xs q => by
    have ne : a ≠ p := by
      rintro rfl
      rw [h] at q; cases q; exact h2 _ _ rfl
    rw [upd_ne ne]; exact q

theorem pre_get {ρ ρ' : List Addr} {n : Nat} {a : Addr} (p : ρ <+: ρ') (h : ρ[n]? = some a) : ρ'[n]? = some a := by
  obtain ⟨t, rfl⟩ := p
  rw [List.getElem?_append_left (List.getElem?_eq_some_iff.mp h).1]
  exact h
section
variable {K : PySem.W.Frag} {ρ ρ' : List Addr} {H H' : Hp}
theorem SqT.he {a : Addr} {ys : List V} (e : HE H H') (h : SqT K H a ys) : SqT K H' a ys := h.elim (fun h => .inl (e.tup _ _ h)) .inr
theorem SqF.he {a : Addr} {ys : List V} (e : HE H H') (h : SqF K H a ys) : SqF K H' a ys := h.elim (fun ⟨o, h⟩ => .inl ⟨o, e.frz _ _ _ h⟩) .inr
mutual
theorem VR.mono (p : ρ <+: ρ') (e : HE H H') : ∀ {w : W} {v : V}, VR K ρ H w v → VR K ρ' H' w v
  | _, _, .non => .non
  | _, _, .bl b => .bl b
  | _, _, .int i => .int i
  | _, _, .str s => .str s
  | _, _, .tup q r => .tup (SqT.he e q) (VRs.mono p e r)
  | _, _, .fl q r => .fl (SqF.he e q) (VRs.mono p e r)
  | _, _, .ref q => .ref (pre_get p q)
  | _, _, .gl a => .gl a
  | _, _, .ty t => .ty t
theorem VRs.mono (p : ρ <+: ρ') (e : HE H H') : ∀ {ws : List W} {vs : List V}, VRs K ρ H ws vs → VRs K ρ' H' ws vs
  | _, _, .nil => .nil
  | _, _, .cons q r => .cons (VR.mono p e q) (VRs.mono p e r)
end
theorem VRs.length : ∀ {ws : List W} {vs : List V}, VRs K ρ H ws vs → ws.length = vs.length
  | _, _, .nil => rfl
  | _, _, .cons _ r => by simp [VRs.length r]
theorem VRs.get : ∀ {ws : List W} {vs : List V} {i : Nat} {w : W}, VRs K ρ H ws vs → ws[i]? = some w → ∃ v, vs[i]? = some v ∧ VR K ρ H w v
  | _, _, _, _, .nil, e => by simp at e
  | _, _, 0, _, .cons q _, e => by simp at e; subst e; exact ⟨_, rfl, q⟩
  | _, _, i + 1, w, .cons _ r, e => by
    obtain ⟨v, h1, h2⟩ := VRs.get (i := i) (w := w) r (by simpa using e)
    exact ⟨v, by simpa using h1, h2⟩
theorem VRs.get' : ∀ {ws : List W} {vs : List V} {i : Nat} {v : V}, VRs K ρ H ws vs → vs[i]? = some v → ∃ w, ws[i]? = some w ∧ VR K ρ H w v
  | _, _, _, _, .nil, e => by simp at e
  | _, _, 0, _, .cons q _, e => by simp at e; subst e; exact ⟨_, rfl, q⟩
  | _, _, i + 1, w, .cons _ r, e => by
    obtain ⟨v, h1, h2⟩ := VRs.get' (i := i) (v := w) r (by simpa using e)
    exact ⟨v, by simpa using h1, h2⟩
theorem VRs.append : ∀ {ws ws' : List W} {vs vs' : List V}, VRs K ρ H ws vs → VRs K ρ H ws' vs' → VRs K ρ H (ws ++ ws') (vs ++ vs')
  | _, _, _, _, .nil, r => r
  | _, _, _, _, .cons q r, r' => .cons q (VRs.append r r')
theorem VRs.set {w : W} {v : V} (q : VR K ρ H w v) : ∀ {ws : List W} {vs : List V} (i : Nat), VRs K ρ H ws vs → VRs K ρ H (ws.set i w) (vs.set i v)
  | _, _, _, .nil => .nil
  | _, _, 0, .cons _ r => .cons q r
  | _, _, i + 1, .cons p r => .cons p (VRs.set q i r)
theorem VRs.take : ∀ {ws : List W} {vs : List V} (n : Nat), VRs K ρ H ws vs → VRs K ρ H (ws.take n) (vs.take n)
  | _, _, 0, _ => .nil
  | _, _, _ + 1, .nil => .nil
  | _, _, n + 1, .cons q r => .cons q (VRs.take n r)
theorem VRs.drop : ∀ {ws : List W} {vs : List V} (n : Nat), VRs K ρ H ws vs → VRs K ρ H (ws.drop n) (vs.drop n)
  | _, _, 0, r => r
  | _, _, _ + 1, .nil => .nil
  | _, _, n + 1, .cons _ r => VRs.drop n r
theorem VRs.reverse {ws : List W} {vs : List V} (r : VRs K ρ H ws vs) : VRs K ρ H ws.reverse vs.reverse := by
  induction ws generalizing vs with
  | nil => cases r; exact .nil
  | cons x xs ih => cases r with | cons q r => simp only [List.reverse_cons]; exact VRs.append (ih r) (.cons q .nil)
end

/-- a caught exception at a, as HandS tracks it -/
def xcO (a : Addr) (cls : Value) (d : Option Addr) : HO := .ext fun h => ∃ oe vs, h.get? a = some oe ∧ oe.cls = cls ∧ oe.dict = d ∧ oe.data = .fields vs
/-- an object of the heap and what HandS tracks at its place -/
inductive OR (K : PySem.W.Frag) (N : Nm) (ρ : List Addr) (H : Hp) (a : Addr) : Ob → HO → Prop
  | lst {xs : List W} {ys : List V} : VRs K ρ H xs ys → OR K N ρ H a (.lst xs) (.lst ys)
  | dct {kvs : List (Key × W)} {kvs' : List (Key × V)} : kvs.map (·.1) = kvs'.map (·.1) → VRs K ρ H (kvs.map (·.2)) (kvs'.map (·.2)) → OR K N ρ H a (.dct kvs) (.dK kvs')
  | ins {c : Nat} {dx : Addr} {fs : List (Nat × W)} {fs' : List (Str × V)} : fs'.map (·.1) = fs.map (fun f => N.an f.1) → VRs K ρ H (fs.map (·.2)) (fs'.map (·.2)) → OR K N ρ H a (.ins c fs) (.ins (N.ca c) dx fs')
  | xdt {fs : List (Nat × W)} {fs' : List (Str × V)} : fs'.map (·.1) = fs.map (fun f => N.an f.1) → VRs K ρ H (fs.map (·.2)) (fs'.map (·.2)) → OR K N ρ H a (.xdt fs) (.xd fs')
  | exc0 {c : Nat} : OR K N ρ H a (.exc c none) (xcO a (.ref (N.ca c)) none)
  | exc1 {c m : Nat} {dx : Addr} : ρ[m]? = some dx → OR K N ρ H a (.exc c (some m)) (xcO a (.ref (N.ca c)) (some dx))
theorem OR.mono {K : PySem.W.Frag} {N : Nm} {ρ ρ' : List Addr} {H H' : Hp} {a : Addr} (p : ρ <+: ρ') (e : HE H H') {o : Ob} {O : HO} (h : OR K N ρ H a o O) : OR K N ρ' H' a o O := by
  cases h with
  | lst r => exact .lst (r.mono p e)
  | dct k r => exact .dct k (r.mono p e)
  | ins k r => exact .ins k (r.mono p e)
  | xdt k r => exact .xdt k (r.mono p e)
  | exc0 => exact .exc0
  | exc1 q => exact .exc1 (pre_get p q)

/-- the heap h stands in H, its objects at ρ -/
structure HR (K : PySem.W.Frag) (N : Nm) (ρ : List Addr) (h : Heap) (H : Hp) : Prop where
  len : ρ.length = h.nx
  nd : ρ.Nodup
  tr : ∀ a ∈ ρ, ∃ O, H a = some O
  obj : ∀ n o, h.get n = some o → ∃ a O, ρ[n]? = some a ∧ H a = some O ∧ OR K N ρ H a o O
/-- .. where every number below the next has an object -/
theorem HR.at {K : PySem.W.Frag} {N : Nm} {ρ : List Addr} {h : Heap} {H : Hp} (r : HR K N ρ h H) {n : Nat} {o : Ob} {a : Addr} (e : h.get n = some o) (q : ρ[n]? = some a) : ∃ O, H a = some O ∧ OR K N ρ H a o O := by
  obtain ⟨a', O, h1, h2, h3⟩ := r.obj n o e
  rw [q] at h1; cases h1
  exact ⟨O, h2, h3⟩
section
variable {K : PySem.W.Frag} {N : Nm} {ρ : List Addr} {h : Heap} {H : Hp}
/-- only what the heap does not hold has changed -/
theorem HR.he {H' : Hp} (r : HR K N ρ h H) (e : HE H H') (k : ∀ a ∈ ρ, H' a = H a) : HR K N ρ h H' :=
  ⟨r.len, r.nd, fun a m => by rw [k a m]; exact r.tr a m, fun n o q => by
    obtain ⟨a, O, h1, h2, h3⟩ := r.obj n o q
    exact ⟨a, O, h1, (k a (List.mem_of_getElem? h1)).trans h2, h3.mono List.prefix_rfl e⟩⟩
theorem HR.fresh {p : Addr} (r : HR K N ρ h H) (hp : H p = none) : ∀ a ∈ ρ, a ≠ p := fun a m e => by
  obtain ⟨O, q⟩ := r.tr a m
  rw [e, hp] at q
  cases q
/-- a new thing that is none of the heap's -/
theorem HR.other {p : Addr} {O : HO} (r : HR K N ρ h H) (hp : H p = none) : HR K N ρ h (upd H p O) :=
  r.he (HE.new hp) fun a m => upd_ne (r.fresh hp a m)
/-- a new object of the heap -/
theorem HR.new {p : Addr} {o : Ob} {O : HO} (r : HR K N ρ h H) (hp : H p = none) (ho : OR K N (ρ ++ [p]) (upd H p O) p o O) : HR K N (ρ ++ [p]) (h.new o) (upd H p O) where
  len := by simp [r.len]
  nd := by
    rw [List.nodup_append]
    refine ⟨r.nd, by simp, fun a ha b hb => ?_⟩
    simp at hb; subst hb
    exact r.fresh hp a ha
  tr := fun a m => by
    rcases List.mem_append.mp m with m | m
    · rw [upd_ne (r.fresh hp a m)]; exact r.tr a m
    · simp at m; subst m; exact ⟨O, upd_same⟩
  obj := fun n u q => by
    rw [Heap.new_get] at q
    by_cases e : n = h.nx
    · subst e
      rw [if_pos rfl] at q; cases q
      exact ⟨p, O, by rw [← r.len]; simp, upd_same, ho⟩
    · rw [if_neg e] at q
      obtain ⟨a, O', h1, h2, h3⟩ := r.obj n u q
      exact ⟨a, O', pre_get (List.prefix_append _ _) h1, (upd_ne (ne_of_none h2 hp)).trans h2, h3.mono (List.prefix_append _ _) (HE.new hp)⟩
/-- a thing beside the heap becomes its newest object -/
theorem HR.adopt {p : Addr} {o : Ob} {O : HO} (r : HR K N ρ h H) (hp : p ∉ ρ) (he : HE H (upd H p O)) (ho : OR K N (ρ ++ [p]) (upd H p O) p o O) : HR K N (ρ ++ [p]) (h.new o) (upd H p O) where
  len := by simp [r.len]
  nd := by
    rw [List.nodup_append]
    refine ⟨r.nd, by simp, fun a ha b hb => ?_⟩
    simp at hb; subst hb
    rintro rfl
    exact hp ha
  tr := fun a m => by
    by_cases z : a = p
    · subst z; exact ⟨O, upd_same⟩
    · rw [upd_ne z]
      rcases List.mem_append.mp m with m | m
      · exact r.tr a m
      · simp at m; exact (z m).elim
  obj := fun n u q => by
    rw [Heap.new_get] at q
    by_cases e : n = h.nx
    · subst e
      rw [if_pos rfl] at q; cases q
      exact ⟨p, O, by rw [← r.len]; simp, upd_same, ho⟩
    · rw [if_neg e] at q
      obtain ⟨a, O', h1, h2, h3⟩ := r.obj n u q
      have ne : a ≠ p := fun z => hp (by rw [← z]; exact List.mem_of_getElem? h1)
      exact ⟨a, O', pre_get (List.prefix_append _ _) h1, (upd_ne ne).trans h2, h3.mono (List.prefix_append _ _) he⟩
theorem HR.at_new (r : HR K N ρ h H) (p : Addr) : (ρ ++ [p])[h.nx]? = some p := by rw [← r.len]; simp
/-- an object changed -/
theorem HR.put {n : Nat} {a : Addr} {o' : Ob} {O O' : HO} (r : HR K N ρ h H) (q : ρ[n]? = some a) (e : H a = some O) (h1 : ∀ xs, O ≠ .tup xs) (h2 : ∀ ob v, O ≠ .frz ob v) (ho : OR K N ρ (upd H a O') a o' O') :
    HR K N ρ (h.put n o') (upd H a O') where
  len := r.len
  nd := r.nd
  tr := fun b m => by
    by_cases z : b = a
    · subst z; exact ⟨O', upd_same⟩
    · rw [upd_ne z]; exact r.tr b m
  obj := fun m u z => by
    rw [Heap.put_get] at z
    by_cases em : m = n
    · subst em
      rw [if_pos rfl] at z; cases z
      exact ⟨a, O', q, upd_same, ho⟩
    · rw [if_neg em] at z
      obtain ⟨b, U, g1, g2, g3⟩ := r.obj m u z
      have ne : b ≠ a := by
        rintro rfl
        obtain ⟨l1, e1⟩ := List.getElem?_eq_some_iff.mp g1
        obtain ⟨l2, e2⟩ := List.getElem?_eq_some_iff.mp q
        exact em ((List.getElem_inj r.nd).mp (e1.trans e2.symm))
      exact ⟨b, U, g1, (upd_ne ne).trans g2, g3.mono List.prefix_rfl (HE.upd e h1 h2)⟩
end

/-- the locals -/
structure LR (K : PySem.W.Frag) (ρ : List Addr) (H : Hp) (ls : Ls) (σ : St) : Prop where
  len : ls.length = σ.length
  get : ∀ (i : Nat) (w : W), ls[i]? = some (some w) → ∃ v : V, σ[i]? = some (some v) ∧ VR K ρ H w v
theorem LR.mono {K : PySem.W.Frag} {ρ ρ' : List Addr} {H H' : Hp} {ls : Ls} {σ : St} (p : ρ <+: ρ') (e : HE H H') (l : LR K ρ H ls σ) : LR K ρ' H' ls σ :=
  ⟨l.len, fun i w q => by obtain ⟨v, h1, h2⟩ := l.get i w q; exact ⟨v, h1, h2.mono p e⟩⟩
theorem LR.set {K : PySem.W.Frag} {ρ : List Addr} {H : Hp} {ls : Ls} {σ : St} {w : W} {v : V} (l : LR K ρ H ls σ) (i : Nat) (q : VR K ρ H w v) : LR K ρ H (ls.set i (some w)) (σ.set i (some v)) :=
  ⟨by simp [l.len], fun j u e => by
    by_cases hj : i = j
    · subst hj
      have hl : i < ls.length := by
        by_cases z : i < ls.length
        · exact z
        · rw [List.getElem?_eq_none (by simpa using z)] at e; cases e
      rw [List.getElem?_set_self hl] at e
      cases e
      exact ⟨v, List.getElem?_set_self (by rw [← l.len]; exact hl), q⟩
    · rw [List.getElem?_set_ne hj] at e
      obtain ⟨v', h1, h2⟩ := l.get j u e
      exact ⟨v', by rw [List.getElem?_set_ne hj]; exact h1, h2⟩⟩
theorem LR.unset {K : PySem.W.Frag} {ρ : List Addr} {H : Hp} {ls : Ls} {σ : St} (l : LR K ρ H ls σ) (i : Nat) : LR K ρ H (ls.set i none) (σ.set i none) :=
  ⟨by simp [l.len], fun j u e => by
    by_cases hj : i = j
    · subst hj
      by_cases z : i < ls.length
      · rw [List.getElem?_set_self z] at e; cases e
      · rw [List.getElem?_eq_none (by simpa using z)] at e; cases e
    · rw [List.getElem?_set_ne hj] at e
      obtain ⟨v', h1, h2⟩ := l.get j u e
      exact ⟨v', by rw [List.getElem?_set_ne hj]; exact h1, h2⟩⟩

/-- an exception's own fields -/
def XR (K : PySem.W.Frag) (N : Nm) (ρ : List Addr) (H : Hp) (fs : List (Nat × W)) : Option Addr → Prop
  | none => fs = []
  | some dx => fs ≠ [] ∧ dx ∉ ρ ∧ ∃ fs' : List (Str × V), H dx = some (.xd fs') ∧ fs'.map (·.1) = fs.map (fun f => N.an f.1) ∧ VRs K ρ H (fs.map (·.2)) (fs'.map (·.2))

/-- no exception's dict -/
def NXd (O : HO) : Prop := ∀ fs, O ≠ .xd fs
/-- from (ρ, H) on: what is tracked beside the heap stays (but the dicts of exceptions in flight) -/
structure Ex (ρ ρ' : List Addr) (H H' : Hp) : Prop where
  pre : ρ <+: ρ'
  he : HE H H'
  fr : ∀ a O, H a = some O → NXd O → a ∉ ρ → H' a = some O ∧ a ∉ ρ'
theorem Ex.refl (ρ : List Addr) (H : Hp) : Ex ρ ρ H H := ⟨List.prefix_rfl, HE.refl H, fun _ _ h _ n => ⟨h, n⟩⟩
theorem Ex.trans {ρ ρ1 ρ2 : List Addr} {H H1 H2 : Hp} (a : Ex ρ ρ1 H H1) (b : Ex ρ1 ρ2 H1 H2) : Ex ρ ρ2 H H2 :=
  ⟨a.pre.trans b.pre, a.he.trans b.he, fun x O h nx n => let ⟨h1, n1⟩ := a.fr x O h nx n; b.fr x O h1 nx n1⟩
/-- a new thing beside the heap -/
theorem Ex.other {ρ : List Addr} {H : Hp} {p : Addr} {O : HO} (hn : H p = none) : Ex ρ ρ H (upd H p O) :=
  ⟨List.prefix_rfl, HE.new hn, fun a U h _ n => ⟨by rw [upd_ne (ne_of_none h hn)]; exact h, n⟩⟩
/-- a new object of the heap -/
theorem Ex.alloc {ρ : List Addr} {H : Hp} {p : Addr} {O : HO} (hn : H p = none) : Ex ρ (ρ ++ [p]) H (upd H p O) :=
  ⟨List.prefix_append _ _, HE.new hn, fun a U h _ n => ⟨by rw [upd_ne (ne_of_none h hn)]; exact h, fun m => by
    rcases List.mem_append.mp m with m | m
    · exact n m
    · simp at m; exact ne_of_none h hn m⟩⟩
/-- an object of the heap written -/
theorem Ex.put {ρ : List Addr} {H : Hp} {p : Addr} {O : HO} {n : Nat} (q : ρ[n]? = some p) (he : HE H (upd H p O)) : Ex ρ ρ H (upd H p O) :=
  ⟨List.prefix_rfl, he, fun a U h _ m => ⟨by rw [upd_ne (fun e => m (by rw [e]; exact List.mem_of_getElem? q))]; exact h, m⟩⟩
theorem Ex.adopt {ρ ρ' : List Addr} {H H' : Hp} {p : Addr} {O O' : HO} (hn : H p = none) (ex : Ex ρ ρ' (upd H p O') H') (he : HE H' (upd H' p O)) : Ex ρ (ρ' ++ [p]) H (upd H' p O) :=
  ⟨ex.pre.trans (List.prefix_append _ _), ((HE.new hn).trans ex.he).trans he, fun a U h nx n => by
    have ne : a ≠ p := ne_of_none h hn
    obtain ⟨h1, n1⟩ := ex.fr a U (by rw [upd_ne ne]; exact h) nx n
    refine ⟨by rw [upd_ne ne]; exact h1, fun m => ?_⟩
    rcases List.mem_append.mp m with m | m
    · exact n1 m
    · simp at m; exact ne m⟩
theorem VR.ex {K : PySem.W.Frag} {ρ ρ' : List Addr} {H H' : Hp} {w : W} {v : V} (e : Ex ρ ρ' H H') (r : VR K ρ H w v) : VR K ρ' H' w v := r.mono e.pre e.he
theorem VRs.ex {K : PySem.W.Frag} {ρ ρ' : List Addr} {H H' : Hp} {w : List W} {v : List V} (e : Ex ρ ρ' H H') (r : VRs K ρ H w v) : VRs K ρ' H' w v := r.mono e.pre e.he
theorem LR.ex {K : PySem.W.Frag} {ρ ρ' : List Addr} {H H' : Hp} {ls : Ls} {σ : St} (e : Ex ρ ρ' H H') (r : LR K ρ H ls σ) : LR K ρ' H' ls σ := r.mono e.pre e.he

/-- what must hold so that the outcome r leads to Q, or to E -/
def Out (K : PySem.W.Frag) (N : Nm) (ρ : List Addr) (H : Hp) (r : R) (Q : VK) (E : XK) : Prop := match r with
  | .ok w h' => ∀ ρ' H' v, Ex ρ ρ' H H' → HR K N ρ' h' H' → VR K ρ' H' w v → Q v H'
  | .exc c fs h' => ∀ ρ' H' d, Ex ρ ρ' H H' → HR K N ρ' h' H' → XR K N ρ' H' fs d → E (.ref (N.ca c)) d H'
  | .bad => False
def Outs (K : PySem.W.Frag) (N : Nm) (ρ : List Addr) (H : Hp) (r : Rs) (Q : List V → Hp → Prop) (E : XK) : Prop := match r with
  | .ok w h' => ∀ ρ' H' v, Ex ρ ρ' H H' → HR K N ρ' h' H' → VRs K ρ' H' w v → Q v H'
  | .exc c fs h' => ∀ ρ' H' d, Ex ρ ρ' H H' → HR K N ρ' h' H' → XR K N ρ' H' fs d → E (.ref (N.ca c)) d H'
  | .bad => False
def Outb (K : PySem.W.Frag) (N : Nm) (ρ : List Addr) (H : Hp) (r : Rb) (Q : Bool → Hp → Prop) (E : XK) : Prop := match r with
  | .ok b h' => ∀ ρ' H', Ex ρ ρ' H H' → HR K N ρ' h' H' → Q b H'
  | .exc c fs h' => ∀ ρ' H' d, Ex ρ ρ' H H' → HR K N ρ' h' H' → XR K N ρ' H' fs d → E (.ref (N.ca c)) d H'
  | .bad => False
def OutS (K : PySem.W.Frag) (N : Nm) (ρ : List Addr) (H : Hp) (r : SR) (D : Ends) (Wx : WX) : Prop := match r with
  | .nx ls' h' => ∀ ρ' σ' H', Ex ρ ρ' H H' → LR K ρ' H' ls' σ' → HR K N ρ' h' H' → D.nx σ' H'
  | .rt w h' => ∀ ρ' H' v, Ex ρ ρ' H H' → HR K N ρ' h' H' → VR K ρ' H' w v → D.rt v H'
  | .bk ls' h' => ∀ ρ' σ' H', Ex ρ ρ' H H' → LR K ρ' H' ls' σ' → HR K N ρ' h' H' → D.bk σ' H'
  | .ct ls' h' => ∀ ρ' σ' H', Ex ρ ρ' H H' → LR K ρ' H' ls' σ' → HR K N ρ' h' H' → D.ct σ' H'
  | .exc c fs ls' h' => ∀ ρ' σ' H' d, Ex ρ ρ' H H' → LR K ρ' H' ls' σ' → HR K N ρ' h' H' → XR K N ρ' H' fs d → Wx (.ref (N.ca c)) d σ' H'
  | .bad => False

/-- the lifting: a semantic function as a reading -/
def LE (K : PySem.W.Frag) (N : Nm) (Wx : WX) (f : SE) : TE := fun σ H Q => ∃ ρ ls h, LR K ρ H ls σ ∧ HR K N ρ h H ∧ Out K N ρ H (f ls h) Q fun c d H' => Wx c d σ H'
def LA (K : PySem.W.Frag) (N : Nm) (Wx : WX) (f : SEs) : TA := fun σ H Q => ∃ ρ ls h, LR K ρ H ls σ ∧ HR K N ρ h H ∧ Outs K N ρ H (f ls h) Q fun c d H' => Wx c d σ H'
def LT (K : PySem.W.Frag) (N : Nm) (Wx : WX) (f : SB) : TT := fun σ H Q => ∃ ρ ls h, LR K ρ H ls σ ∧ HR K N ρ h H ∧ Outb K N ρ H (f ls h) Q fun c d H' => Wx c d σ H'
def LS (K : PySem.W.Frag) (N : Nm) (Wx : WX) (s : SS) : TS := fun D σ H => ∃ ρ ls h, LR K ρ H ls σ ∧ HR K N ρ h H ∧ OutS K N ρ H (s ls h) D Wx
def LSp (K : PySem.W.Frag) (N : Nm) (F : List W → Heap → R) : Sp := fun vs H Q E => ∃ ρ ws h, VRs K ρ H ws vs ∧ HR K N ρ h H ∧ Out K N ρ H (F ws h) Q E

section
variable {K : PySem.W.Frag} {N : Nm} {ρ ρ1 : List Addr} {H H1 : Hp} {E E' : XK}
theorem Out.ex {r : R} {Q : VK} (e : Ex ρ ρ1 H H1) (h : Out K N ρ H r Q E) : Out K N ρ1 H1 r Q E := by
  cases r with
  | ok w h' => exact fun ρ' H' v e' => h ρ' H' v (e.trans e')
  | exc c fs h' => exact fun ρ' H' d e' => h ρ' H' d (e.trans e')
  | bad => exact h
theorem Outs.ex {r : Rs} {Q : List V → Hp → Prop} (e : Ex ρ ρ1 H H1) (h : Outs K N ρ H r Q E) : Outs K N ρ1 H1 r Q E := by
  cases r with
  | ok w h' => exact fun ρ' H' v e' => h ρ' H' v (e.trans e')
  | exc c fs h' => exact fun ρ' H' d e' => h ρ' H' d (e.trans e')
  | bad => exact h
theorem Outb.ex {r : Rb} {Q : Bool → Hp → Prop} (e : Ex ρ ρ1 H H1) (h : Outb K N ρ H r Q E) : Outb K N ρ1 H1 r Q E := by
  cases r with
  | ok w h' => exact fun ρ' H' e' => h ρ' H' (e.trans e')
  | exc c fs h' => exact fun ρ' H' d e' => h ρ' H' d (e.trans e')
  | bad => exact h
theorem OutS.ex {r : SR} {D : Ends} {Wx : WX} (e : Ex ρ ρ1 H H1) (h : OutS K N ρ H r D Wx) : OutS K N ρ1 H1 r D Wx := by
  cases r with
  | nx ls h' => exact fun ρ' σ' H' e' => h ρ' σ' H' (e.trans e')
  | rt w h' => exact fun ρ' H' v e' => h ρ' H' v (e.trans e')
  | bk ls h' => exact fun ρ' σ' H' e' => h ρ' σ' H' (e.trans e')
  | ct ls h' => exact fun ρ' σ' H' e' => h ρ' σ' H' (e.trans e')
  | exc c fs ls h' => exact fun ρ' σ' H' d e' => h ρ' σ' H' d (e.trans e')
  | bad => exact h
/-- a value just so -/
theorem Out.here {w : W} {v : V} {h : Heap} {Q : VK} (q : Out K N ρ H (.ok w h) Q E) (e : Ex ρ ρ1 H H1) (r : HR K N ρ1 h H1) (x : VR K ρ1 H1 w v) : Q v H1 := q ρ1 H1 v e r x
theorem Out.mono {r : R} {Q Q' : VK} (h : Out K N ρ H r Q E) (hq : ∀ v H', Q v H' → Q' v H') (he : ∀ c d H', E c d H' → E' c d H') : Out K N ρ H r Q' E' := by
  cases r with
  | ok w h' => exact fun ρ' H' v e r x => hq _ _ (h ρ' H' v e r x)
  | exc c fs h' => exact fun ρ' H' d e r x => he _ _ _ (h ρ' H' d e r x)
  | bad => exact h
/-- two in a row -/
theorem Out.bind {r : R} {k : W → Heap → R} {Q : VK} (h : Out K N ρ H (r.bind k) Q E) : Out K N ρ H r (fun v H1 => ∃ ρ1 w h1, Ex ρ ρ1 H H1 ∧ HR K N ρ1 h1 H1 ∧ VR K ρ1 H1 w v ∧ Out K N ρ1 H1 (k w h1) Q E) E := by
  cases r with
  | ok w h' => exact fun ρ' H' v e r x => ⟨ρ', w, h', e, r, x, Out.ex e h⟩
  | exc c fs h' => exact h
  | bad => exact h
theorem Outs.bind {r : Rs} {k : List W → Heap → R} {Q : VK} (h : Out K N ρ H (r.bind k) Q E) : Outs K N ρ H r (fun v H1 => ∃ ρ1 w h1, Ex ρ ρ1 H H1 ∧ HR K N ρ1 h1 H1 ∧ VRs K ρ1 H1 w v ∧ Out K N ρ1 H1 (k w h1) Q E) E := by
  cases r with
  | ok w h' => exact fun ρ' H' v e r x => ⟨ρ', w, h', e, r, x, Out.ex e h⟩
  | exc c fs h' => exact h
  | bad => exact h
end
end Ev
set_option maxRecDepth 100000
/-! EvExpr: the semantic functions of expressions, each with its rule. -/
namespace Ev
open PySem L2

/-! ### names, constants -/
def eVar (i : Nat) : SE := fun ls h => match ls[i]? with
  | some (some w) => .ok w h
  | _ => .bad
def eW (w : W) : SE := fun _ h => .ok w h
section
variable {X : Cx} {N : Nm} {Wx : WX} {pos : Pos} {j : Nat}
theorem r_var {i : Nat} {x : Str} (hN : X.N[i]? = some x) (hv : Vis X.env.scope x) (hd : (x == ("__debug__" : Str)) = false := by decide) (hcd : (x == ("__classdict__" : Str)) = false := by decide) : PE X (.Name x pos) (LE X.K N Wx (eVar i)) := by
  refine (pe_var hN hv hd hcd).imp fun σ H Q h => ?_
  obtain ⟨ρ, ls, hp, l, hr, o⟩ := h
  unfold eVar at o
  split at o
  · rename_i w e
    obtain ⟨v, h1, h2⟩ := l.get i w e
    exact ⟨v, h1, o ρ H v (Ex.refl _ _) hr h2⟩
  · exact o.elim
theorem r_const {e : PySem.Expr} {w : W} {v : V} (h : PE X e (tC v)) (r : ∀ ρ H, VR X.K ρ H w v) : PE X e (LE X.K N Wx (eW w)) :=
  h.imp fun σ H Q ⟨ρ, ls, hp, l, hr, o⟩ => o ρ H v (Ex.refl _ _) hr (r ρ H)
theorem r_int {i : Int} : PE X (.Constant (.int i) j pos) (LE X.K N Wx (eW (.int i))) := r_const pe_int fun _ _ => .int i
theorem r_bl {b : Bool} : PE X (.Constant (.bool b) j pos) (LE X.K N Wx (eW (.bl b))) := r_const pe_bl fun _ _ => .bl b
theorem r_non : PE X (.Constant .none j pos) (LE X.K N Wx (eW .non)) := r_const pe_non fun _ _ => .non
theorem r_str {x : Str} : PE X (.Constant (.str x) j pos) (LE X.K N Wx (eW (.str x))) := r_const pe_str fun _ _ => .str x
/-- a global of the module: a class, a def, a tuple -/
theorem r_glob {x : Str} {w : W} {v : V} {u : Value} (hg : Gl X x) (hm : X.mg x = some u) (rv : RelV v u) (r : ∀ ρ H, VR X.K ρ H w v) (hd : (x == ("__debug__" : Str)) = false := by decide) : PE X (.Name x pos) (LE X.K N Wx (eW w)) :=
  r_const (pe_glob hg hm rv hd) r
end

/-! ### operators by values -/
def eBin (op : W → W → Heap → R) (f g : SE) : SE := fun ls h => (f ls h).bind fun x h1 => (g ls h1).bind fun y h2 => op x y h2
def eUn (op : W → Heap → R) (f : SE) : SE := fun ls h => (f ls h).bind fun x h1 => op x h1
/-- f is done by op -/
def OpOk (X : Cx) (N : Nm) (f : Value → Value → Sem Value) (op : W → W → Heap → R) : Prop :=
  ∃ r, OpR X f r ∧ ∀ ρ h H x y v u Q E, HR X.K N ρ h H → VR X.K ρ H x v → VR X.K ρ H y u → Out X.K N ρ H (op x y h) Q E → r v u H Q
def UnOk (X : Cx) (N : Nm) (f : Value → Sem Value) (op : W → Heap → R) : Prop :=
  ∃ r, UnR X f r ∧ ∀ ρ h H x v Q E, HR X.K N ρ h H → VR X.K ρ H x v → Out X.K N ρ H (op x h) Q E → r v H Q
section
variable {X : Cx} {N : Nm} {Wx : WX} {pos : Pos} {a b c : PySem.Expr} {f g k : SE}
/-- the readings of two in a row -/
theorem two_in {K : PySem.W.Frag} {σ : St} {H : Hp} {Q : VK} {op : W → W → Heap → R} {R : V → V → Hp → Prop} (h : LE K N Wx (eBin op f g) σ H Q)
    (hR : ∀ ρ h H x y v u, HR K N ρ h H → VR K ρ H x v → VR K ρ H y u → Out K N ρ H (op x y h) Q (fun c d H' => Wx c d σ H') → R v u H) :
    LE K N Wx f σ H fun v H1 => LE K N Wx g σ H1 fun u H2 => R v u H2 := by
  obtain ⟨ρ, ls, hp, l, hr, o⟩ := h
  refine ⟨ρ, ls, hp, l, hr, (Out.bind o).mono (fun v H1 z => ?_) fun _ _ _ z => z⟩
  obtain ⟨ρ1, x, h1, e1, hr1, rx, o1⟩ := z
  refine ⟨ρ1, ls, h1, l.ex e1, hr1, (Out.bind o1).mono (fun u H2 z => ?_) fun _ _ _ z => z⟩
  obtain ⟨ρ2, y, h2, e2, hr2, ry, o2⟩ := z
  exact hR ρ2 h2 H2 x y v u hr2 (rx.ex e2) ry o2
theorem one_in {K : PySem.W.Frag} {σ : St} {H : Hp} {Q : VK} {op : W → Heap → R} {R : V → Hp → Prop} (h : LE K N Wx (eUn op f) σ H Q)
    (hR : ∀ ρ ls h H x v, LR K ρ H ls σ → HR K N ρ h H → VR K ρ H x v → Out K N ρ H (op x h) Q (fun c d H' => Wx c d σ H') → R v H) :
    LE K N Wx f σ H fun v H1 => R v H1 := by
  obtain ⟨ρ, ls, hp, l, hr, o⟩ := h
  refine ⟨ρ, ls, hp, l, hr, (Out.bind o).mono (fun v H1 z => ?_) fun _ _ _ z => z⟩
  obtain ⟨ρ1, x, h1, e1, hr1, rx, o1⟩ := z
  exact hR ρ1 ls h1 H1 x v (l.ex e1) hr1 rx o1
theorem r_bin {o : Operator} {op : W → W → Heap → R} (ho : OpOk X N (binaryOp o) op) (ha : PE X a (LE X.K N Wx f)) (hb : PE X b (LE X.K N Wx g)) : PE X (.BinOp a o b pos) (LE X.K N Wx (eBin op f g)) := by
  obtain ⟨r, h1, h2⟩ := ho
  exact (pe_op h1 ha hb).imp fun σ H Q h => two_in h fun ρ h H x y v u hr rx ry o => h2 ρ h H x y v u Q _ hr rx ry o
theorem r_cmp {o : CmpOp} {op : W → W → Heap → R} (ho : OpOk X N (compareOp o) op) (ha : PE X a (LE X.K N Wx f)) (hb : PE X b (LE X.K N Wx g)) (hm : behindInMarks o b = false) : PE X (.Compare a [o] [b] pos) (LE X.K N Wx (eBin op f g)) := by
  obtain ⟨r, h1, h2⟩ := ho
  exact (pe_cmpR h1 ha hb hm).imp fun σ H Q h => two_in h fun ρ h H x y v u hr rx ry o => h2 ρ h H x y v u Q _ hr rx ry o
theorem r_un {o : UnaryOp} {op : W → Heap → R} (ho : UnOk X N (unaryOp o) op) (ha : PE X a (LE X.K N Wx f)) : PE X (.UnaryOp o a pos) (LE X.K N Wx (eUn op f)) := by
  obtain ⟨r, h1, h2⟩ := ho
  exact (pe_un h1 ha).imp fun σ H Q h => one_in h fun ρ ls h H x v l hr rx o => h2 ρ h H x v Q _ hr rx o
/-- a op b op' c -/
def eChain (op op' : W → W → Heap → R) (f g k : SE) : SE := fun ls h => (f ls h).bind fun x h1 => (g ls h1).bind fun y h2 => (op x y h2).bind fun z h3 => match z with
  | .bl true => (k ls h3).bind fun w h4 => op' y w h4
  | .bl false => .ok (.bl false) h3
  | _ => .bad
theorem chain_in {K : PySem.W.Frag} {σ : St} {H : Hp} {Q : VK} {op op' : W → W → Heap → R} {r r' : R2} (h2 : ∀ ρ h H x y v u Q E, HR K N ρ h H → VR K ρ H x v → VR K ρ H y u → Out K N ρ H (op x y h) Q E → r v u H Q)
    (h2' : ∀ ρ h H x y v u Q E, HR K N ρ h H → VR K ρ H x v → VR K ρ H y u → Out K N ρ H (op' x y h) Q E → r' v u H Q) (h : LE K N Wx (eChain op op' f g k) σ H Q) : tChain r r' (LE K N Wx f) (LE K N Wx g) (LE K N Wx k) σ H Q := by
  obtain ⟨ρ, ls, hp, l, hr, o⟩ := h
  refine ⟨ρ, ls, hp, l, hr, (Out.bind o).mono (fun v H1 z => ?_) fun _ _ _ z => z⟩
  obtain ⟨ρ1, x, hp1, e1, hr1, rx, o1⟩ := z
  refine ⟨ρ1, ls, hp1, l.ex e1, hr1, (Out.bind o1).mono (fun u H2 z => ?_) fun _ _ _ z => z⟩
  obtain ⟨ρ2, y, hp2, e2, hr2, ry, o2⟩ := z
  refine h2 ρ2 hp2 H2 x y v u _ _ hr2 (rx.ex e2) ry ((Out.bind o2).mono (fun q H3 z => ?_) fun _ _ _ z => z)
  obtain ⟨ρ3, w, hp3, e3, hr3, rw', o3⟩ := z
  cases rw' with
  | bl c =>
    refine ⟨c, rfl, ?_⟩
    cases c with
    | true =>
      rw [if_pos rfl]
      refine ⟨ρ3, ls, hp3, ((l.ex e1).ex e2).ex e3, hr3, (Out.bind o3).mono (fun t H4 z => ?_) fun _ _ _ z => z⟩
      obtain ⟨ρ4, w4, hp4, e4, hr4, r4, o4⟩ := z
      exact h2' ρ4 hp4 H4 y w4 u t Q _ hr4 ((ry.ex e3).ex e4) r4 o4
    | false =>
      rw [if_neg Bool.false_ne_true]
      exact o3 ρ3 H3 _ (Ex.refl _ _) hr3 (.bl false)
  | non => exact o3.elim
  | int => exact o3.elim
  | str => exact o3.elim
  | tup => exact o3.elim
  | fl => exact o3.elim
  | ref => exact o3.elim
  | gl => exact o3.elim
  | ty => exact o3.elim
theorem r_chain {o o' : CmpOp} {op op' : W → W → Heap → R} (ho : OpOk X N (compareOp o) op) (ho' : OpOk X N (compareOp o') op') (ha : PE X a (LE X.K N Wx f)) (hb : PE X b (LE X.K N Wx g)) (hc : PE X c (LE X.K N Wx k))
    (hm : lastMarks [o, o'] [b, c] = false := by with_unfolding_all rfl) : PE X (.Compare a [o, o'] [b, c] pos) (LE X.K N Wx (eChain op op' f g k)) := by
  obtain ⟨r, h1, h2⟩ := ho
  obtain ⟨r', h1', h2'⟩ := ho'
  exact (pe_chain h1 h1' ha hb hc hm).imp fun σ H Q h => chain_in h2 h2' h
end

/-! ### truth -/
def wTru (h : Heap) : W → Option Bool
  | .non => some false
  | .bl b => some b
  | .int i => some (i != 0)
  | .str s => if s.length ≤ sizeLine then some ((s.length : Int) != 0) else none
  | .tup xs => some (!xs.isEmpty)
  | .fl xs => some (!xs.isEmpty)
  | .ref n => match h.get n with
    | some (.lst xs) => some (!xs.isEmpty)
    | some (.dct kvs) => some (!kvs.isEmpty)
    | _ => none
  | _ => none
theorem emp_of {K : PySem.W.Frag} {ρ : List Addr} {H : Hp} {xs : List W} {ys : List V} (r : VRs K ρ H xs ys) : (!xs.isEmpty) = !ys.isEmpty := by cases r <;> rfl
theorem emp_keys {α β γ : Type} {kvs : List (γ × α)} {kvs' : List (γ × β)} (k : kvs.map (·.1) = kvs'.map (·.1)) : (!kvs.isEmpty) = !kvs'.isEmpty := by
  cases kvs <;> cases kvs' <;> first | rfl | (simp at k)
theorem tru_of {K : PySem.W.Frag} {N : Nm} {ρ : List Addr} {h : Heap} {H : Hp} {w : W} {v : V} {b : Bool} (hr : HR K N ρ h H) (r : VR K ρ H w v) (e : wTru h w = some b) : TruV K v H b := by
  cases r with
  | non => simp [wTru] at e; subst e; rfl
  | bl c => simp [wTru] at e; subst e; rfl
  | int i => simp only [wTru, Option.some.injEq] at e; subst e; rfl
  | str s =>
    simp only [wTru] at e
    split at e
    · rename_i q; simp only [Option.some.injEq] at e; subst e; exact ⟨q, rfl⟩
    · cases e
  | tup q r =>
    simp only [wTru, Option.some.injEq] at e
    subst e
    exact .inr (.inl ⟨_, q, emp_of r⟩)
  | fl q r =>
    simp only [wTru, Option.some.injEq] at e
    subst e
    exact .inl ⟨_, q.sq, emp_of r⟩
  | @ref n a q =>
    simp only [wTru] at e
    split at e
    · rename_i xs z
      obtain ⟨O, h2, h3⟩ := hr.at z q
      cases h3 with | lst r => cases e; exact .inl ⟨_, .inl (.inl h2), emp_of r⟩
    · rename_i kvs z
      obtain ⟨O, h2, h3⟩ := hr.at z q
      cases h3 with
      | dct k r =>
        cases e
        refine .inr (.inr ⟨_, h2, ?_⟩)
        exact emp_keys k
    · cases e
  | gl => cases e
  | ty => cases e

/-- a test by a value's truth -/
def bTru (f : SE) : SB := fun ls h => match f ls h with
  | .ok w h1 => match wTru h1 w with
    | some b => .ok b h1
    | none => .bad
  | .exc c fs h1 => .exc c fs h1
  | .bad => .bad
/-- a test by a value that is a bool -/
def bVal (f : SE) : SB := fun ls h => match f ls h with
  | .ok (.bl b) h1 => .ok b h1
  | .ok _ _ => .bad
  | .exc c fs h1 => .exc c fs h1
  | .bad => .bad
def bAnd (f g : SB) : SB := fun ls h => match f ls h with
  | .ok true h1 => g ls h1
  | r => r
def bOr (f g : SB) : SB := fun ls h => match f ls h with
  | .ok false h1 => g ls h1
  | r => r
def bNot (f : SB) : SB := fun ls h => match f ls h with
  | .ok b h1 => .ok (!b) h1
  | r => r
def eAnd (f g : SE) : SE := fun ls h => (f ls h).bind fun x h1 => match wTru h1 x with
  | some true => g ls h1
  | some false => .ok x h1
  | none => .bad
def eOr (f g : SE) : SE := fun ls h => (f ls h).bind fun x h1 => match wTru h1 x with
  | some true => .ok x h1
  | some false => g ls h1
  | none => .bad
def eNot (f : SE) : SE := eUn (fun x h => match wTru h x with
  | some b => .ok (.bl (!b)) h
  | none => .bad) f
def eIf (t : SB) (f g : SE) : SE := fun ls h => match t ls h with
  | .ok true h1 => f ls h1
  | .ok false h1 => g ls h1
  | .exc c fs h1 => .exc c fs h1
  | .bad => .bad
section
variable {X : Cx} {N : Nm} {Wx : WX} {pos : Pos} {a b c : PySem.Expr} {rest : List PySem.Expr} {f g k : SE} {s t : SB}
theorem val_in {K : PySem.W.Frag} {σ : St} {H : Hp} {Q : Bool → Hp → Prop} (h : LT K N Wx (bVal f) σ H Q) : LE K N Wx f σ H fun x H' => ∃ k, x = .bl k ∧ Q k H' := by
  obtain ⟨ρ, ls, hp, l, hr, o⟩ := h
  refine ⟨ρ, ls, hp, l, hr, ?_⟩
  unfold bVal at o
  split at o
  · rename_i b h1 e
    rw [e]
    intro ρ' H' v ex r x
    cases x
    exact ⟨b, rfl, o ρ' H' ex r⟩
  · exact o.elim
  · rename_i c fs h1 e; rw [e]; exact o
  · exact o.elim
theorem t_cmp {o : CmpOp} {op : W → W → Heap → R} (ho : OpOk X N (compareOp o) op) (ha : PE X a (LE X.K N Wx f)) (hb : PE X b (LE X.K N Wx g)) (hm : behindInMarks o b = false) : PT X (.Compare a [o] [b] pos) (LT X.K N Wx (bVal (eBin op f g))) := by
  obtain ⟨r, h1, h2⟩ := ho
  refine (pt_cmpR h1 ha hb hm).imp fun σ H Q h => ?_
  exact two_in (val_in h) fun ρ h H x y v u hr rx ry o => h2 ρ h H x y v u _ _ hr rx ry o
theorem t_val (ha : PE X a (LE X.K N Wx f)) (he : ∀ whole, isTrue a X.env whole = (do let v ← whole; standAt a.pos; holding [v] (truthy v)) := by intro _; rfl) : PT X a (LT X.K N Wx (bVal f)) :=
  (pt_val ha he).imp fun σ H Q h => val_in h
theorem tru_in {K : PySem.W.Frag} {σ : St} {H : Hp} {Q : Bool → Hp → Prop} (h : LT K N Wx (bTru f) σ H Q) : LE K N Wx f σ H fun x H' => ∃ k, TruV K x H' k ∧ Q k H' := by
  obtain ⟨ρ, ls, hp, l, hr, o⟩ := h
  refine ⟨ρ, ls, hp, l, hr, ?_⟩
  unfold bTru at o
  split at o
  · rename_i w h1 e
    rw [e]
    split at o
    · rename_i b eb
      intro ρ' H' v ex r x
      exact ⟨b, tru_of r x eb, o ρ' H' ex r⟩
    · exact o.elim
  · rename_i c fs h1 e; rw [e]; exact o
  · exact o.elim
theorem t_tru (ha : PE X a (LE X.K N Wx f)) (he : ∀ whole, isTrue a X.env whole = (do let v ← whole; standAt a.pos; holding [v] (truthy v)) := by intro _; rfl) : PT X a (LT X.K N Wx (bTru f)) :=
  (pt_truth ha he).imp fun σ H Q h => tru_in h
theorem w_and1 (ha : PT X a (LT X.K N Wx s)) : PW X (.BoolOp .And [a] pos) (LT X.K N Wx s) := pw_and1 ha
theorem w_or1 (ha : PT X a (LT X.K N Wx s)) : PW X (.BoolOp .Or [a] pos) (LT X.K N Wx s) := pw_or1 ha
theorem w_and (ha : PT X a (LT X.K N Wx s)) (hb : PW X (.BoolOp .And (b :: rest) pos) (LT X.K N Wx t)) : PW X (.BoolOp .And (a :: b :: rest) pos) (LT X.K N Wx (bAnd s t)) := by
  refine PW.imp (pw_and ha hb) fun σ H Q h => ?_
  obtain ⟨ρ, ls, hp, l, hr, o⟩ := h
  refine ⟨ρ, ls, hp, l, hr, ?_⟩
  unfold bAnd at o
  split at o
  · rename_i h1 e
    rw [e]
    intro ρ' H' ex r
    rw [if_pos rfl]
    exact ⟨ρ', ls, h1, l.ex ex, r, Outb.ex ex o⟩
  · rename_i z
    cases e : s ls hp with
    | ok b h1 =>
      cases b with
      | true => exact (z h1 e).elim
      | false =>
        rw [e] at o
        intro ρ' H' ex r
        rw [if_neg Bool.false_ne_true]
        exact o ρ' H' ex r
    | exc c fs h1 => rw [e] at o; exact o
    | bad => rw [e] at o; exact o.elim
theorem w_or (ha : PT X a (LT X.K N Wx s)) (hb : PW X (.BoolOp .Or (b :: rest) pos) (LT X.K N Wx t)) : PW X (.BoolOp .Or (a :: b :: rest) pos) (LT X.K N Wx (bOr s t)) := by
  refine PW.imp (pw_or ha hb) fun σ H Q h => ?_
  obtain ⟨ρ, ls, hp, l, hr, o⟩ := h
  refine ⟨ρ, ls, hp, l, hr, ?_⟩
  unfold bOr at o
  split at o
  · rename_i h1 e
    rw [e]
    intro ρ' H' ex r
    rw [if_neg Bool.false_ne_true]
    exact ⟨ρ', ls, h1, l.ex ex, r, Outb.ex ex o⟩
  · rename_i z
    cases e : s ls hp with
    | ok b h1 =>
      cases b with
      | false => exact (z h1 e).elim
      | true =>
        rw [e] at o
        intro ρ' H' ex r
        rw [if_pos rfl]
        exact o ρ' H' ex r
    | exc c fs h1 => rw [e] at o; exact o
    | bad => rw [e] at o; exact o.elim
theorem t_w (h : PW X a (LT X.K N Wx s)) : PT X a (LT X.K N Wx s) := h.pt
theorem t_not (ha : PT X a (LT X.K N Wx s)) : PT X (.UnaryOp .Not a pos) (LT X.K N Wx (bNot s)) := by
  refine PT.imp (pt_not ha) fun σ H Q h => ?_
  obtain ⟨ρ, ls, hp, l, hr, o⟩ := h
  refine ⟨ρ, ls, hp, l, hr, ?_⟩
  unfold bNot at o
  cases e : s ls hp with
  | ok b h1 => rw [e] at o; exact o
  | exc c fs h1 => rw [e] at o; exact o
  | bad => rw [e] at o; exact o.elim
theorem r_one {o : BoolOp} (ha : PE X a (LE X.K N Wx f)) : PE X (.BoolOp o [a] pos) (LE X.K N Wx f) := pe_one ha
theorem r_and (ha : PE X a (LE X.K N Wx f)) (hb : PE X (.BoolOp .And (b :: rest) pos) (LE X.K N Wx g)) : PE X (.BoolOp .And (a :: b :: rest) pos) (LE X.K N Wx (eAnd f g)) := by
  refine PE.imp (pe_andT ha hb) fun σ H Q h => ?_
  obtain ⟨ρ, ls, hp, l, hr, o⟩ := h
  refine ⟨ρ, ls, hp, l, hr, (Out.bind o).mono (fun v H1 z => ?_) fun _ _ _ z => z⟩
  obtain ⟨ρ1, x, h1, e1, hr1, rx, o1⟩ := z
  split at o1
  · rename_i e
    refine ⟨true, tru_of hr1 rx e, ?_⟩
    rw [if_pos rfl]
    exact ⟨ρ1, ls, h1, l.ex e1, hr1, o1⟩
  · rename_i e
    refine ⟨false, tru_of hr1 rx e, ?_⟩
    rw [if_neg Bool.false_ne_true]
    exact o1 ρ1 H1 v (Ex.refl _ _) hr1 rx
  · exact o1.elim
theorem r_or (ha : PE X a (LE X.K N Wx f)) (hb : PE X (.BoolOp .Or (b :: rest) pos) (LE X.K N Wx g)) : PE X (.BoolOp .Or (a :: b :: rest) pos) (LE X.K N Wx (eOr f g)) := by
  refine PE.imp (pe_orT ha hb) fun σ H Q h => ?_
  obtain ⟨ρ, ls, hp, l, hr, o⟩ := h
  refine ⟨ρ, ls, hp, l, hr, (Out.bind o).mono (fun v H1 z => ?_) fun _ _ _ z => z⟩
  obtain ⟨ρ1, x, h1, e1, hr1, rx, o1⟩ := z
  split at o1
  · rename_i e
    refine ⟨true, tru_of hr1 rx e, ?_⟩
    rw [if_pos rfl]
    exact o1 ρ1 H1 v (Ex.refl _ _) hr1 rx
  · rename_i e
    refine ⟨false, tru_of hr1 rx e, ?_⟩
    rw [if_neg Bool.false_ne_true]
    exact ⟨ρ1, ls, h1, l.ex e1, hr1, o1⟩
  · exact o1.elim
theorem r_not (ha : PE X a (LE X.K N Wx f)) : PE X (.UnaryOp .Not a pos) (LE X.K N Wx (eNot f)) := by
  refine PE.imp (pe_notT ha) fun σ H Q h => ?_
  refine one_in h fun ρ ls h H x v l hr rx o => ?_
  split at o
  · rename_i b e
    exact ⟨b, tru_of hr rx e, o ρ H _ (Ex.refl _ _) hr (.bl _)⟩
  · exact o.elim
theorem r_if (ht : PT X c (LT X.K N Wx t)) (ha : PE X a (LE X.K N Wx f)) (hb : PE X b (LE X.K N Wx g)) : PE X (.IfExp c a b pos) (LE X.K N Wx (eIf t f g)) := by
  refine PE.imp (pe_ifExp ht ha hb) fun σ H Q h => ?_
  obtain ⟨ρ, ls, hp, l, hr, o⟩ := h
  refine ⟨ρ, ls, hp, l, hr, ?_⟩
  unfold eIf at o
  cases e : t ls hp with
  | ok b h1 =>
    rw [e] at o
    intro ρ' H' ex r
    cases b with
    | true => rw [if_pos rfl]; exact ⟨ρ', ls, h1, l.ex ex, r, Out.ex ex o⟩
    | false => rw [if_neg Bool.false_ne_true]; exact ⟨ρ', ls, h1, l.ex ex, r, Out.ex ex o⟩
  | exc c fs h1 => rw [e] at o; exact o
  | bad => rw [e] at o; exact o.elim
end

/-! ### argument lists, displays -/
def aNil : SEs := fun _ h => .ok [] h
def aCons (f : SE) (g : SEs) : SEs := fun ls h => match f ls h with
  | .ok x h1 => match g ls h1 with
    | .ok xs h2 => .ok (x :: xs) h2
    | r => r
  | .exc c fs h1 => .exc c fs h1
  | .bad => .bad
def eTup (g : SEs) : SE := fun ls h => (g ls h).bind fun xs h1 => if xs.length ≤ sizeLine then .ok (.tup xs) h1 else .bad
def eLst (g : SEs) : SE := fun ls h => (g ls h).bind fun xs h1 => if xs.length ≤ sizeLine then .ok (.ref h1.nx) (h1.new (.lst xs)) else .bad
section
variable {X : Cx} {N : Nm} {Wx : WX} {pos : Pos} {e : PySem.Expr} {es : List PySem.Expr} {f : SE} {g : SEs}
theorem ra_nil : PA X [] (LA X.K N Wx aNil) := PA.imp pa_nil fun σ H Q ⟨ρ, ls, hp, l, hr, o⟩ => o ρ H [] (Ex.refl _ _) hr .nil
theorem ra_cons (ha : PE X e (LE X.K N Wx f)) (hr : PA X es (LA X.K N Wx g)) (hs : starEach (e :: es) X.env = (false, eval e X.env) :: starEach es X.env := by rfl) : PA X (e :: es) (LA X.K N Wx (aCons f g)) := by
  refine PA.imp (pa_cons ha hr hs) fun σ H Q h => ?_
  obtain ⟨ρ, ls, hp, l, hr, o⟩ := h
  refine ⟨ρ, ls, hp, l, hr, ?_⟩
  unfold aCons at o
  cases e1 : f ls hp with
  | ok x h1 =>
    rw [e1] at o
    simp only at o
    intro ρ' H' v ex r rx
    refine ⟨ρ', ls, h1, l.ex ex, r, ?_⟩
    cases e2 : g ls h1 with
    | ok xs h2 =>
      rw [e2] at o
      intro ρ2 H2 vs ex2 r2 rxs
      exact o ρ2 H2 _ (ex.trans ex2) r2 (.cons (rx.ex ex2) rxs)
    | exc c fs h2 =>
      rw [e2] at o
      intro ρ2 H2 d ex2 r2 rxs
      exact o ρ2 H2 d (ex.trans ex2) r2 rxs
    | bad => rw [e2] at o; exact o.elim
  | exc c fs h1 => rw [e1] at o; exact o
  | bad => rw [e1] at o; exact o.elim
end
end Ev
set_option maxRecDepth 100000
/-! EvOps: displays, operators, subscripts, slices, dicts. -/
namespace Ev
open PySem L2
section
variable {X : Cx} {N : Nm} {Wx : WX} {pos : Pos} {e a b : PySem.Expr} {es : List PySem.Expr} {f g : SE} {gs : SEs}
theorem r_tup {x1} (h : PA X es (LA X.K N Wx gs)) : PE X (.Tuple es x1 pos) (LE X.K N Wx (eTup gs)) := by
  refine PE.imp (pe_tup h) fun σ H Q h => ?_
  obtain ⟨ρ, ls, hp, l, hr, o⟩ := h
  refine ⟨ρ, ls, hp, l, hr, ?_⟩
  unfold eTup at o
  cases e1 : gs ls hp with
  | ok xs h1 =>
    rw [e1, Rs.bind_ok] at o
    intro ρ' H' vs ex r rx
    split at o
    · rename_i hz
      refine ⟨by rw [← rx.length]; exact hz, fun p hn => ?_⟩
      exact o ρ' _ _ (ex.trans (Ex.other hn)) (r.other hn) (.tup (.inl (.inl upd_same)) (rx.mono List.prefix_rfl (HE.new hn)))
    · exact o.elim
  | exc c fs h1 => rw [e1] at o; exact o
  | bad => rw [e1] at o; exact o.elim
theorem r_lst (h : PA X es (LA X.K N Wx gs)) : PE X (.List es pos) (LE X.K N Wx (eLst gs)) := by
  refine PE.imp (pe_lst h) fun σ H Q h => ?_
  obtain ⟨ρ, ls, hp, l, hr, o⟩ := h
  refine ⟨ρ, ls, hp, l, hr, ?_⟩
  unfold eLst at o
  cases e1 : gs ls hp with
  | ok xs h1 =>
    rw [e1, Rs.bind_ok] at o
    intro ρ' H' vs ex r rx
    split at o
    · rename_i hz
      refine ⟨by rw [← rx.length]; exact hz, fun p hn => ?_⟩
      have pre : ρ' <+: ρ' ++ [p] := List.prefix_append _ _
      exact o (ρ' ++ [p]) _ _ (ex.trans (Ex.alloc hn)) (r.new hn (.lst (rx.mono pre (HE.new hn)))) (.ref (r.at_new p))
    · exact o.elim
  | exc c fs h1 => rw [e1] at o; exact o
  | bad => rw [e1] at o; exact o.elim
end

/-! ### reading the heap -/
/-- the list at n -/
def lstAt (h : Heap) (n : Nat) : Option (List W) := match h.get n with
  | some (.lst xs) => some xs
  | _ => none
section
variable {K : PySem.W.Frag} {N : Nm} {ρ : List Addr} {h : Heap} {H : Hp}
theorem lst_of {n : Nat} {xs : List W} {a : Addr} (hr : HR K N ρ h H) (e : lstAt h n = some xs) (q : ρ[n]? = some a) : ∃ ys, SqL K H a ys ∧ VRs K ρ H xs ys := by
  unfold lstAt at e
  split at e
  · rename_i us z
    cases e
    obtain ⟨O, h2, h3⟩ := hr.at z q
    cases h3 with | lst r => exact ⟨_, .inl (.inl h2), r⟩
  · cases e
theorem lst_mut {n : Nat} {xs : List W} {a : Addr} (hr : HR K N ρ h H) (e : h.get n = some (.lst xs)) (q : ρ[n]? = some a) : ∃ ys, H a = some (.lst ys) ∧ VRs K ρ H xs ys := by
  obtain ⟨O, h2, h3⟩ := hr.at e q
  cases h3 with | lst r => exact ⟨_, h2, r⟩
theorem dct_of {n : Nat} {kvs : List (Key × W)} {a : Addr} (hr : HR K N ρ h H) (e : h.get n = some (.dct kvs)) (q : ρ[n]? = some a) :
    ∃ kvs' : List (Key × V), H a = some (.dK kvs') ∧ kvs.map (·.1) = kvs'.map (·.1) ∧ VRs K ρ H (kvs.map (·.2)) (kvs'.map (·.2)) := by
  obtain ⟨O, h2, h3⟩ := hr.at e q
  cases h3 with | dct k r => exact ⟨_, h2, k, r⟩
/-- a list written -/
theorem HR.setL {n : Nat} {a : Addr} {ys zs : List V} {xs : List W} (r : HR K N ρ h H) (q : ρ[n]? = some a) (e : H a = some (.lst ys)) (x : VRs K ρ H xs zs) : HR K N ρ (h.put n (.lst xs)) (upd H a (.lst zs)) ∧ HE H (upd H a (.lst zs)) := by
  have he : HE H (upd H a (.lst zs)) := HE.upd e (fun _ z => nomatch z) (fun _ _ z => nomatch z)
  exact ⟨r.put q e (fun _ z => nomatch z) (fun _ _ z => nomatch z) (.lst (x.mono List.prefix_rfl he)), he⟩
theorem HR.setD {n : Nat} {a : Addr} {ys zs : List (Key × V)} {xs : List (Key × W)} (r : HR K N ρ h H) (q : ρ[n]? = some a) (e : H a = some (.dK ys)) (k : xs.map (·.1) = zs.map (·.1)) (x : VRs K ρ H (xs.map (·.2)) (zs.map (·.2))) :
    HR K N ρ (h.put n (.dct xs)) (upd H a (.dK zs)) ∧ HE H (upd H a (.dK zs)) := by
  have he : HE H (upd H a (.dK zs)) := HE.upd e (fun _ z => nomatch z) (fun _ _ z => nomatch z)
  exact ⟨r.put q e (fun _ z => nomatch z) (fun _ _ z => nomatch z) (.dct k (x.mono List.prefix_rfl he)), he⟩
/-- a new list, a new tuple -/
theorem Out.newL {E : XK} {xs : List W} {ys : List V} {Q : VK} (hr : HR K N ρ h H) (x : VRs K ρ H xs ys) (o : Out K N ρ H (.ok (.ref h.nx) (h.new (.lst xs))) Q E) : ∀ p, H p = none → Q (.ref p) (upd H p (.lst ys)) := fun p hn => by
  have pre : ρ <+: ρ ++ [p] := List.prefix_append _ _
  exact o (ρ ++ [p]) _ _ (Ex.alloc hn) (hr.new hn (.lst (x.mono pre (HE.new hn)))) (.ref (hr.at_new p))
theorem Out.newT {E : XK} {xs : List W} {ys : List V} {Q : VK} (hr : HR K N ρ h H) (x : VRs K ρ H xs ys) (o : Out K N ρ H (.ok (.tup xs) h) Q E) : ∀ p, H p = none → Q (.ref p) (upd H p (.tup ys)) := fun p hn =>
  o ρ _ _ (Ex.other hn) (hr.other hn) (.tup (.inl (.inl upd_same)) (x.mono List.prefix_rfl (HE.new hn)))
theorem Out.val {E : XK} {w : W} {v : V} {Q : VK} (o : Out K N ρ H (.ok w h) Q E) (hr : HR K N ρ h H) (x : VR K ρ H w v) : Q v H := o ρ H v (Ex.refl _ _) hr x
end

/-! ### + - * // % ** -/
def wAdd : W → W → Heap → R
  | .int i, .int j, h => .ok (.int (i + j)) h
  | .str s, .str t, h => if s.length + t.length ≤ sizeLine then .ok (.str (s ++ t)) h else .bad
  | .tup xs, .tup ys, h => if xs.length + ys.length ≤ sizeLine then .ok (.tup (xs ++ ys)) h else .bad
  | .ref n, .ref m, h => match h.get n, h.get m with
    | some (.lst xs), some (.lst ys) => if xs.length + ys.length ≤ sizeLine then .ok (.ref h.nx) (h.new (.lst (xs ++ ys))) else .bad
    | _, _ => .bad
  | _, _, _ => .bad
def wSub : W → W → Heap → R
  | .int i, .int j, h => .ok (.int (i - j)) h
  | _, _, _ => .bad
def smallI (i : Int) : Bool := decide (-(2 ^ 64) < i) && decide (i < 2 ^ 64)
def wMul : W → W → Heap → R
  | .int i, .int j, h => if (smallI i || smallI j) = true then .ok (.int (i * j)) h else .bad
  | .ref n, .int k, h => match h.get n with
    | some (.lst xs) => if -(2 ^ 63) ≤ k ∧ k < 2 ^ 63 ∧ xs.length * k.toNat ≤ sizeLine then .ok (.ref h.nx) (h.new (.lst (List.replicate k.toNat xs).flatten)) else .bad
    | _ => .bad
  | _, _, _ => .bad
def wMod : W → W → Heap → R
  | .int i, .int j, h => if 0 < j then .ok (.int (i % j)) h else .bad
  | _, _, _ => .bad
def wFdv : W → W → Heap → R
  | .int i, .int j, h => if 0 < j ∧ j < 1073741824 then .ok (.int (i / j)) h else .bad
  | _, _, _ => .bad
def wPow : W → W → Heap → R
  | .int i, .int j, h => if 0 ≤ j ∧ j ≤ 1000000 ∧ i.natAbs < 2 ^ 64 then .ok (.int (i ^ j.toNat)) h else .bad
  | _, _, _ => .bad
def wNeg : W → Heap → R
  | .int i, h => .ok (.int (-i)) h
  | _, _ => .bad
section
variable {X : Cx} {N : Nm}
theorem ok_add : OpOk X N (binaryOp .Add) wAdd := by
  refine ⟨_, OpR.or op_add (OpR.or op_add_str (OpR.or op_catA op_cat)), fun ρ h H x y v u Q E hr rx ry o => ?_⟩
  cases rx with
  | int i => cases ry with
    | int j => exact .inl ⟨i, j, rfl, rfl, o.val hr (.int _)⟩
    | _ => exact o.elim
  | str s => cases ry with
    | str t =>
      simp only [wAdd] at o
      split at o
      · exact .inr (.inl ⟨s, t, rfl, rfl, by assumption, o.val hr (.str _)⟩)
      · exact o.elim
    | _ => exact o.elim
  | @tup xs ys a q r => cases ry with
    | @tup xs' ys' a' q' r' =>
      simp only [wAdd] at o
      split at o
      · rename_i hz
        refine .inr (.inr (.inl ⟨a, a', ys, ys', rfl, rfl, q, q', by rw [← r.length, ← r'.length]; exact hz, ?_, ?_, ?_⟩))
        · intro e; subst e
          cases r
          exact o.val hr (.tup q' r')
        · intro e1 e2; subst e2
          cases r'
          rw [List.append_nil] at o
          exact o.val hr (.tup q r)
        · intro e1 e2
          exact Out.newT hr (r.append r') o
      · exact o.elim
    | _ => exact o.elim
  | @ref n a q => cases ry with
    | @ref m b q' =>
      simp only [wAdd] at o
      split at o
      · rename_i xs ys e1 e2
        split at o
        · rename_i hz
          obtain ⟨us, g1, r1⟩ := lst_mut hr e1 q
          obtain ⟨ws, g2, r2⟩ := lst_mut hr e2 q'
          exact .inr (.inr (.inr ⟨a, b, us, ws, rfl, rfl, g1, g2, by rw [← r1.length, ← r2.length]; exact hz, Out.newL hr (r1.append r2) o⟩))
        · exact o.elim
      · exact o.elim
    | _ => exact o.elim
  | _ => exact o.elim
theorem ok_sub : OpOk X N (binaryOp .Sub) wSub := by
  refine ⟨_, op_sub, fun ρ h H x y v u Q E hr rx ry o => ?_⟩
  cases rx with
  | int i => cases ry with
    | int j => exact ⟨i, j, rfl, rfl, o.val hr (.int _)⟩
    | _ => exact o.elim
  | _ => exact o.elim
theorem rep_vrs {K : PySem.W.Frag} {ρ : List Addr} {H : Hp} {xs : List W} {ys : List V} (r : VRs K ρ H xs ys) : ∀ n, VRs K ρ H (List.replicate n xs).flatten (List.replicate n ys).flatten
  | 0 => .nil
  | n + 1 => by rw [List.replicate_succ, List.replicate_succ, List.flatten_cons, List.flatten_cons]; exact r.append (rep_vrs r n)
theorem ok_mul : OpOk X N (binaryOp .Mult) wMul := by
  refine ⟨_, OpR.or op_mul op_rep, fun ρ h H x y v u Q E hr rx ry o => ?_⟩
  cases rx with
  | int i => cases ry with
    | int j =>
      simp only [wMul] at o
      split at o
      · rename_i z
        refine .inl ⟨i, j, rfl, rfl, ?_, o.val hr (.int _)⟩
        simp only [smallI, Bool.or_eq_true, Bool.and_eq_true, decide_eq_true_eq] at z
        exact z
      · exact o.elim
    | _ => exact o.elim
  | @ref n a q => cases ry with
    | int k =>
      simp only [wMul] at o
      split at o
      · rename_i xs e1
        split at o
        · rename_i hz
          obtain ⟨us, g1, r1⟩ := lst_mut hr e1 q
          exact .inr ⟨a, k, us, rfl, rfl, g1, hz.1, hz.2.1, by rw [← r1.length]; exact hz.2.2, Out.newL hr (rep_vrs r1 _) o⟩
        · exact o.elim
      · exact o.elim
    | _ => exact o.elim
  | _ => exact o.elim
theorem ok_mod : OpOk X N (binaryOp .Mod) wMod := by
  refine ⟨_, op_mod, fun ρ h H x y v u Q E hr rx ry o => ?_⟩
  cases rx with
  | int i => cases ry with
    | int j =>
      simp only [wMod] at o
      split at o
      · exact ⟨i, j, rfl, rfl, by assumption, o.val hr (.int _)⟩
      · exact o.elim
    | _ => exact o.elim
  | _ => exact o.elim
theorem ok_fdv : OpOk X N (binaryOp .FloorDiv) wFdv := by
  refine ⟨_, op_fdiv, fun ρ h H x y v u Q E hr rx ry o => ?_⟩
  cases rx with
  | int i => cases ry with
    | int j =>
      simp only [wFdv] at o
      split at o
      · exact ⟨i, j, rfl, rfl, by assumption, o.val hr (.int _)⟩
      · exact o.elim
    | _ => exact o.elim
  | _ => exact o.elim
theorem ok_pow : OpOk X N (binaryOp .Pow) wPow := by
  refine ⟨_, op_pow, fun ρ h H x y v u Q E hr rx ry o => ?_⟩
  cases rx with
  | int i => cases ry with
    | int j =>
      simp only [wPow] at o
      split at o
      · exact ⟨i, j, rfl, rfl, by assumption, o.val hr (.int _)⟩
      · exact o.elim
    | _ => exact o.elim
  | _ => exact o.elim
theorem ok_neg : UnOk X N (unaryOp .USub) wNeg := by
  refine ⟨_, un_neg, fun ρ h H x v Q E hr rx o => ?_⟩
  cases rx with
  | int i => exact ⟨i, rfl, o.val hr (.int _)⟩
  | _ => exact o.elim
end

/-! ### < <= > >= of ints and of one-sign texts; is None -/
def wLt : W → W → Heap → R
  | .int i, .int j, h => .ok (.bl (decide (i < j))) h
  | _, _, _ => .bad
def wLe : W → W → Heap → R
  | .int i, .int j, h => .ok (.bl (decide (i ≤ j))) h
  | _, _, _ => .bad
def wGt : W → W → Heap → R
  | .int i, .int j, h => .ok (.bl (decide (j < i))) h
  | _, _, _ => .bad
def wGe : W → W → Heap → R
  | .int i, .int j, h => .ok (.bl (decide (j ≤ i))) h
  | _, _, _ => .bad
def wIsN : W → W → Heap → R
  | .non, .non, h => .ok (.bl true) h
  | _, .non, h => .ok (.bl false) h
  | _, _, _ => .bad
def wNotN : W → W → Heap → R
  | .non, .non, h => .ok (.bl false) h
  | _, .non, h => .ok (.bl true) h
  | _, _, _ => .bad
section
variable {X : Cx} {N : Nm}
theorem ok_lt : OpOk X N (compareOp .Lt) wLt := by
  refine ⟨_, op_lt, fun ρ h H x y v u Q E hr rx ry o => ?_⟩
  cases rx with
  | int i => cases ry with
    | int j => exact ⟨i, j, rfl, rfl, o.val hr (.bl _)⟩
    | _ => exact o.elim
  | _ => exact o.elim
theorem ok_le : OpOk X N (compareOp .LtE) wLe := by
  refine ⟨_, op_le, fun ρ h H x y v u Q E hr rx ry o => ?_⟩
  cases rx with
  | int i => cases ry with
    | int j => exact ⟨i, j, rfl, rfl, o.val hr (.bl _)⟩
    | _ => exact o.elim
  | _ => exact o.elim
theorem ok_gt : OpOk X N (compareOp .Gt) wGt := by
  refine ⟨_, op_gt, fun ρ h H x y v u Q E hr rx ry o => ?_⟩
  cases rx with
  | int i => cases ry with
    | int j => exact ⟨i, j, rfl, rfl, o.val hr (.bl _)⟩
    | _ => exact o.elim
  | _ => exact o.elim
theorem ok_ge : OpOk X N (compareOp .GtE) wGe := by
  refine ⟨_, op_ge, fun ρ h H x y v u Q E hr rx ry o => ?_⟩
  cases rx with
  | int i => cases ry with
    | int j => exact ⟨i, j, rfl, rfl, o.val hr (.bl _)⟩
    | _ => exact o.elim
  | _ => exact o.elim
theorem ok_isN : OpOk X N (compareOp .Is) wIsN := by
  refine ⟨_, op_isN, fun ρ h H x y v u Q E hr rx ry o => ?_⟩
  cases ry with
  | non =>
    refine ⟨rfl, ?_⟩
    cases rx <;> exact o.val hr (.bl _)
  | _ => cases rx <;> exact o.elim
theorem ok_notN : OpOk X N (compareOp .IsNot) wNotN := by
  refine ⟨_, op_notN, fun ρ h H x y v u Q E hr rx ry o => ?_⟩
  cases ry with
  | non =>
    refine ⟨rfl, ?_⟩
    cases rx <;> exact o.val hr (.bl _)
  | _ => cases rx <;> exact o.elim
end

/-! ### subscripts -/
/-- a dict's value by key -/
def dGet (kvs : List (Key × W)) (k : Key) : Option W := (kvs.find? fun kv => decide (kv.1 = k)).map (·.2)
def dPut (kvs : List (Key × W)) (k : Key) (v : W) : List (Key × W) :=
  if (kvs.any fun kv => decide (kv.1 = k)) = true then kvs.map (fun kv => if kv.1 = k then (kv.1, v) else kv) else kvs ++ [(k, v)]
def keyOf : W → Option Key
  | .int i => some (.inl i)
  | .str s => some (.inr s)
  | _ => none
def wIx : W → W → Heap → R
  | .ref n, k, h => match h.get n with
    | some (.dct kvs) => match keyOf k with
      | some k => match dGet kvs k with
        | some w => .ok w h
        | none => .bad
      | none => .bad
    | _ => match k, lstAt h n with
      | .int i, some xs => match atI xs i with
        | some w => .ok w h
        | none => .bad
      | _, _ => .bad
  | .tup xs, .int i, h => match atI xs i with
    | some w => .ok w h
    | none => .bad
  | .fl xs, .int i, h => match atI xs i with
    | some w => .ok w h
    | none => .bad
  | .str s, .int i, h => if s.length ≤ sizeLine then match atI s.cps.toList i with
    | some c => .ok (.str ⟨#[c]⟩) h
    | none => .bad
    else .bad
  | _, _, _ => .bad
section
variable {K : PySem.W.Frag} {ρ : List Addr} {H : Hp}
theorem atI_of {xs : List W} {ys : List V} {i : Int} {w : W} (r : VRs K ρ H xs ys) (e : atI xs i = some w) : ∃ v, atI ys i = some v ∧ VR K ρ H w v := by
  unfold atI at e ⊢
  rw [← r.length]
  cases q : ixN xs.length i with
  | none => rw [q] at e; cases e
  | some j => rw [q] at e; exact r.get e
theorem dGet_of : ∀ {kvs : List (Key × W)} {kvs' : List (Key × V)}, kvs.map (·.1) = kvs'.map (·.1) → VRs K ρ H (kvs.map (·.2)) (kvs'.map (·.2)) → ∀ {k : Key} {w : W}, dGet kvs k = some w → ∃ v, valV kvs' k = some v ∧ VR K ρ H w v
  | [], _, _, _, k, w, e => by cases e
  | (a, x) :: r, [], e1, _, k, w, e => by cases e1
  | (a, x) :: r, (b, y) :: r', e1, rr, k, w, e => by
    simp only [List.map_cons, List.cons.injEq] at e1
    obtain ⟨rfl, e1⟩ := e1
    cases rr with
    | cons q rr =>
      by_cases hk : a = k
      · refine ⟨y, valV_pos hk, ?_⟩
        simp only [dGet, List.find?_cons, hk, decide_true, Option.map_some, Option.some.injEq] at e
        subst e; exact q
      · obtain ⟨v, h1, h2⟩ := dGet_of e1 rr (k := k) (w := w) (by simpa [dGet, List.find?_cons, hk] using e)
        exact ⟨v, by rw [valV_neg hk]; exact h1, h2⟩
theorem dGet_none : ∀ {kvs : List (Key × W)} {kvs' : List (Key × V)}, kvs.map (·.1) = kvs'.map (·.1) → ∀ {k : Key}, dGet kvs k = none → valV kvs' k = none
  | [], [], _, k, _ => rfl
  | [], _ :: _, e1, _, _ => by cases e1
  | (a, x) :: r, [], e1, k, e => by cases e1
  | (a, x) :: r, (b, y) :: r', e1, k, e => by
    simp only [List.map_cons, List.cons.injEq] at e1
    obtain ⟨rfl, e1⟩ := e1
    by_cases hk : a = k
    · simp [dGet, List.find?_cons, hk] at e
    · rw [valV_neg hk]
      exact dGet_none e1 (k := k) (by simpa [dGet, List.find?_cons, hk] using e)
theorem key_of {w : W} {v : V} {k : Key} (r : VR K ρ H w v) (e : keyOf w = some k) : v = kV k := by
  cases r <;> simp [keyOf] at e <;> subst e <;> rfl
theorem dPut_of {kvs : List (Key × W)} {kvs' : List (Key × V)} {k : Key} {w : W} {v : V} (e : kvs.map (·.1) = kvs'.map (·.1)) (r : VRs K ρ H (kvs.map (·.2)) (kvs'.map (·.2))) (q : VR K ρ H w v) :
    (dPut kvs k w).map (·.1) = (putK kvs' k v).map (·.1) ∧ VRs K ρ H ((dPut kvs k w).map (·.2)) ((putK kvs' k v).map (·.2)) := by
  have hany : (kvs.any fun kv => decide (kv.1 = k)) = (kvs'.any fun kv => decide (kv.1 = k)) := by
    have h1 : ∀ {β : Type} (l : List (Key × β)), (l.any fun kv => decide (kv.1 = k)) = ((l.map (·.1)).any fun a => decide (a = k)) := fun l => by rw [List.any_map]; rfl
    rw [h1, h1, e]
  unfold dPut putK
  rw [hany]
  split
  · rename_i zz
    clear hany zz
    induction kvs generalizing kvs' with
    | nil => cases kvs' with
      | nil => exact ⟨rfl, .nil⟩
      | cons => cases e
    | cons p kvs ih => cases kvs' with
      | nil => cases e
      | cons p' kvs' =>
        simp only [List.map_cons, List.cons.injEq] at e
        cases r with
        | cons q1 r =>
          obtain ⟨i1, i2⟩ := ih e.2 r
          obtain ⟨e1, e2⟩ := e
          simp only [List.map_cons]
          by_cases hk : p.1 = k
          · rw [if_pos hk, if_pos (e1 ▸ hk)]
            exact ⟨by rw [i1, e1], .cons q i2⟩
          · rw [if_neg hk, if_neg (e1 ▸ hk)]
            exact ⟨by rw [i1, e1], .cons q1 i2⟩
  · simp only [List.map_append, List.map_cons, List.map_nil, e]
    exact ⟨trivial, r.append (.cons q .nil)⟩
theorem dPut_len (kvs : List (Key × W)) (k : Key) (w : W) : (dPut kvs k w).length ≤ kvs.length + 1 := by
  unfold dPut
  split <;> simp
end
section
variable {X : Cx} {N : Nm} {Wx : WX} {pos : Pos} {a b : PySem.Expr} {f g : SE}
/-- a tracked dict's subscript, by values -/
def rIxDct : R2 := fun x y H Q => ∃ p v, x = .ref p ∧ DGet H p y (some v) ∧ Q v H
theorem ix_dct (hu : X.A.units + 1 < cLine) : IxR X rIxDct := by
  intro value slice pins s σ H x y v u Q I rx ry h hs
  obtain ⟨p, z, rfl, g, q⟩ := h
  obtain rfl : v = Value.ref p := rx
  exact PyProof.Rows.tail_any (dict_typeIs I g) PySem.F.slot_dict_getitem.lookup (d_getItem hu I g ry fun w' s3 I3 rw' => ⟨z, H, I3, rw', q⟩) hs
theorem ix_in {K : PySem.W.Frag} {ρ : List Addr} {h : Heap} {H : Hp} {x y : W} {v u : V} {Q : VK} {E : XK} (hr : HR K N ρ h H) (rx : VR K ρ H x v) (ry : VR K ρ H y u) (o : Out K N ρ H (wIx x y h) Q E) : rIx K v u H Q ∨ rIxDct v u H Q := by
  cases rx with
  | @ref n a q =>
    simp only [wIx] at o
    split at o
    · rename_i kvs e
      split at o
      · rename_i k ek
        split at o
        · rename_i w ew
          obtain ⟨kvs', h1, h2, h3⟩ := dct_of hr e q
          obtain ⟨z, z1, z2⟩ := dGet_of h2 h3 ew
          right
          refine ⟨a, z, rfl, ?_, o.val hr z2⟩
          rw [key_of ry ek, ← z1]
          exact DGet.k h1
        · exact o.elim
      · exact o.elim
    · split at o
      · rename_i i xs ex
        split at o
        · rename_i w ew
          obtain ⟨ys, h1, h2⟩ := lst_of hr ex q
          obtain ⟨z, z1, z2⟩ := atI_of h2 ew
          cases ry
          exact .inl (.inl ⟨a, ys, i, z, rfl, rfl, h1, z1, o.val hr z2⟩)
        · exact o.elim
      · exact o.elim
  | tup q r =>
    cases ry with
    | int i =>
      simp only [wIx] at o
      split at o
      · rename_i w ew
        obtain ⟨z, z1, z2⟩ := atI_of r ew
        exact .inl (.inr (.inl ⟨_, _, i, z, rfl, rfl, q, z1, o.val hr z2⟩))
      · exact o.elim
    | _ => exact o.elim
  | fl q r =>
    cases ry with
    | int i =>
      simp only [wIx] at o
      split at o
      · rename_i w ew
        obtain ⟨z, z1, z2⟩ := atI_of r ew
        exact .inl (.inl ⟨_, _, i, z, rfl, rfl, q.sq, z1, o.val hr z2⟩)
      · exact o.elim
    | _ => exact o.elim
  | str s =>
    cases ry with
    | int i =>
      simp only [wIx] at o
      split at o
      · rename_i hz
        split at o
        · rename_i c ec
          exact .inl (.inr (.inr ⟨s, i, c, rfl, rfl, hz, ec, o.val hr (.str _)⟩))
        · exact o.elim
      · exact o.elim
    | _ => exact o.elim
  | _ => exact o.elim
theorem r_ix (hu : X.A.units + 1 < cLine) (ha : PE X a (LE X.K N Wx f)) (hb : PE X b (LE X.K N Wx g)) (hs : PlainIx b) : PE X (.Subscript a b pos) (LE X.K N Wx (eBin wIx f g)) :=
  PE.imp (pe_ix (ix_seq.or (ix_dct hu)) ha hb hs) fun σ H Q h => two_in h fun ρ h H x y v u hr rx ry o => ix_in hr rx ry o
end

/-! ### slices -/
def wCut (xs : List W) (lo hi : Option Int) : List W := (xs.drop (HT.sIx xs.length 0 lo)).take (HT.sIx xs.length xs.length hi - HT.sIx xs.length 0 lo)
theorem cut_of {K : PySem.W.Frag} {ρ : List Addr} {H : Hp} {xs : List W} {ys : List V} (r : VRs K ρ H xs ys) (lo hi : Option Int) : VRs K ρ H (wCut xs lo hi) (cutV ys lo hi) := by
  unfold wCut cutV
  rw [r.length]
  exact (r.drop _).take _
/-- a part of a slice -/
abbrev SO := Ls → Heap → Option (Option Int × Heap)
def oNone : SO := fun _ h => some (none, h)
def oSome (f : SE) : SO := fun ls h => match f ls h with
  | .ok (.int i) h1 => some (some i, h1)
  | _ => none
def wSl : W → Option Int → Option Int → Heap → R
  | .ref n, lo, hi, h => match lstAt h n with
    | some xs => .ok (.ref h.nx) (h.new (.lst (wCut xs lo hi)))
    | none => .bad
  | .tup xs, lo, hi, h => .ok (.tup (wCut xs lo hi)) h
  | .fl xs, lo, hi, h => .ok (.ref h.nx) (h.new (.lst (wCut xs lo hi)))
  | .str s, lo, hi, h => if s.length ≤ sizeLine then .ok (.str (cutS s lo hi)) h else .bad
  | _, _, _, _ => .bad
def eSl (f : SE) (lo hi : SO) : SE := fun ls h => (f ls h).bind fun x h1 => match lo ls h1 with
  | some (l, h2) => match hi ls h2 with
    | some (u, h3) => wSl x l u h3
    | none => .bad
  | none => .bad
def LO (K : PySem.W.Frag) (N : Nm) (f : SO) : TO := fun σ H Q => ∃ ρ ls h, LR K ρ H ls σ ∧ HR K N ρ h H ∧ match f ls h with
  | some (o, h') => ∀ ρ' H', Ex ρ ρ' H H' → HR K N ρ' h' H' → Q o H'
  | none => False
section
variable {X : Cx} {N : Nm} {Wx : WX} {pos p2 : Pos} {a b : PySem.Expr} {f g : SE} {lo hi : Option PySem.Expr} {l u : SO}
theorem PO.imp {X : Cx} {e : Option PySem.Expr} {t t' : TO} (h : PO X e t) (i : ∀ σ H Q, t' σ H Q → t σ H Q) : PO X e t' := ⟨fun pins s σ H Q I q => h.run pins s σ H Q I (i σ H Q q)⟩
theorem ro_none : PO X none (LO X.K N oNone) := PO.imp po_none fun σ H Q ⟨ρ, ls, h, l, hr, o⟩ => o ρ H (Ex.refl _ _) hr
theorem ro_some (h : PE X a (LE X.K N Wx f)) : PO X (some a) (LO X.K N (oSome f)) := PO.imp (po_some h) fun σ H Q h => by
  obtain ⟨ρ, ls, hp, l, hr, o⟩ := h
  refine ⟨ρ, ls, hp, l, hr, ?_⟩
  unfold oSome at o
  cases e : f ls hp with
  | ok w h1 =>
    rw [e] at o
    intro ρ' H' v ex r x
    cases x with
    | int i => exact ⟨i, rfl, o ρ' H' ex r⟩
    | _ => exact o.elim
  | exc c fs h1 => rw [e] at o; exact o.elim
  | bad => rw [e] at o; exact o.elim
theorem r_sl (ha : PE X a (LE X.K N Wx f)) (hl : PO X lo (LO X.K N l)) (hu : PO X hi (LO X.K N u)) : PE X (.Subscript a (.Slice lo hi none p2) pos) (LE X.K N Wx (eSl f l u)) := by
  refine PE.imp (pe_slice (SlR.or sl_list (SlR.or sl_tupA sl_str)) ha hl hu) fun σ H Q h => ?_
  obtain ⟨ρ, ls, hp, lr, hr, o⟩ := h
  refine ⟨ρ, ls, hp, lr, hr, (Out.bind o).mono (fun v H1 z => ?_) fun _ _ _ z => z⟩
  obtain ⟨ρ1, x, h1, e1, hr1, rx, o1⟩ := z
  refine ⟨ρ1, ls, h1, lr.ex e1, hr1, ?_⟩
  cases el : l ls h1 with
  | none => rw [el] at o1; exact o1.elim
  | some p =>
    obtain ⟨i, h2⟩ := p
    rw [el] at o1
    simp only at o1 ⊢
    intro ρ2 H2 e2 hr2
    refine ⟨ρ2, ls, h2, (lr.ex e1).ex e2, hr2, ?_⟩
    cases eu : u ls h2 with
    | none => rw [eu] at o1; exact o1.elim
    | some p =>
      obtain ⟨j, h3⟩ := p
      rw [eu] at o1
      simp only at o1 ⊢
      intro ρ3 H3 e3 hr3
      have rx3 := (rx.ex e2).ex e3
      have o3 := Out.ex (e2.trans e3) o1
      cases rx3 with
      | @ref n a q =>
        simp only [wSl] at o3
        split at o3
        · rename_i xs ex
          obtain ⟨ys, z1, z2⟩ := lst_of hr3 ex q
          exact .inl ⟨a, ys, rfl, z1, Out.newL hr3 (cut_of z2 i j) o3⟩
        · exact o3.elim
      | @fl xs ys a q r =>
        simp only [wSl] at o3
        exact .inl ⟨a, ys, rfl, q.sq, Out.newL hr3 (cut_of r i j) o3⟩
      | @tup xs ys a q r =>
        simp only [wSl] at o3
        refine .inr (.inl ⟨a, ys, rfl, q, ?_, ?_⟩)
        · intro whole
          have hc := cut_of r i j
          have e : cutV ys i j = ys := by
            unfold cutV
            rw [whole.1, whole.2]
            simp
          rw [e] at hc
          exact o3.val hr3 (.tup q hc)
        · intro _ p hn
          exact Out.newT hr3 (cut_of r i j) o3 p hn
      | str s =>
        simp only [wSl] at o3
        split at o3
        · exact .inr (.inr ⟨s, rfl, by assumption, o3.val hr3 (.str _)⟩)
        · exact o3.elim
      | _ => exact o3.elim
end

/-! ### dict displays -/
inductive Rp where
  | ok (ps : List (W × W)) (h : Heap)
  | exc (c : Nat) (fs : List (Nat × W)) (h : Heap)
  | bad
def ePairs : List (SE × SE) → Ls → Heap → Rp
  | [], _, h => .ok [] h
  | (f, g) :: r, ls, h => match f ls h with
    | .ok x h1 => match g ls h1 with
      | .ok y h2 => match ePairs r ls h2 with
        | .ok ps h3 => .ok ((x, y) :: ps) h3
        | e => e
      | .exc c fs h2 => .exc c fs h2
      | .bad => .bad
    | .exc c fs h1 => .exc c fs h1
    | .bad => .bad
def keysOf : List (W × W) → Option (List (Key × W))
  | [] => some []
  | (k, w) :: r => match keyOf k, keysOf r with
    | some k, some l => some ((k, w) :: l)
    | _, _ => none
def dMerge (kvs : List (Key × W)) : List (Key × W) := kvs.foldl (fun acc kv => dPut acc kv.1 kv.2) []
/-- {k: v, ..} -/
def eDct (ps : List (SE × SE)) : SE := fun ls h => match ePairs ps ls h with
  | .ok kvs h2 => match keysOf kvs with
    | some l => if l.length ≤ 15 then .ok (.ref h2.nx) (h2.new (.dct (dMerge l))) else .bad
    | none => .bad
  | .exc c fs h2 => .exc c fs h2
  | .bad => .bad
def liftPs (K : PySem.W.Frag) (N : Nm) (Wx : WX) (ps : List (SE × SE)) : List (TE × TE) := ps.map fun p => (LE K N Wx p.1, LE K N Wx p.2)
section
variable {X : Cx} {N : Nm} {Wx : WX} {pos : Pos} {k v : PySem.Expr} {ks : List (Option PySem.Expr)} {vs : List PySem.Expr} {f g : SE} {ps : List (SE × SE)}
theorem rp_nil : PPs X pos [] [] (liftPs X.K N Wx []) := pps_nil
theorem rp_cons (hk : PE X k (LE X.K N Wx f)) (hv : PE X v (LE X.K N Wx g)) (hr : PPs X pos ks vs (liftPs X.K N Wx ps)) : PPs X pos (some k :: ks) (v :: vs) (liftPs X.K N Wx ((f, g) :: ps)) := pps_cons hk hv hr
inductive PRs (K : PySem.W.Frag) (ρ : List Addr) (H : Hp) : List (W × W) → List (V × V) → Prop
  | nil : PRs K ρ H [] []
  | cons {p : W × W} {q : V × V} {ps qs} : VR K ρ H p.1 q.1 → VR K ρ H p.2 q.2 → PRs K ρ H ps qs → PRs K ρ H (p :: ps) (q :: qs)
theorem pairs_in {K : PySem.W.Frag} {σ : St} {Q : List (V × V) → Hp → Prop} {E : XK} : ∀ (ps : List (SE × SE)) {ρ : List Addr} {ls : Ls} {h : Heap} {H : Hp}, LR K ρ H ls σ → HR K N ρ h H → (E = fun c d H' => Wx c d σ H') → (match ePairs ps ls h with
    | .ok kvs h2 => ∀ ρ' H' qs, Ex ρ ρ' H H' → HR K N ρ' h2 H' → PRs K ρ' H' kvs qs → Q qs H'
    | .exc c fs h' => ∀ ρ' H' d, Ex ρ ρ' H H' → HR K N ρ' h' H' → XR K N ρ' H' fs d → E (.ref (N.ca c)) d H'
    | .bad => False) → tPairs (liftPs K N Wx ps) σ H Q
  | [], ρ, ls, h, H, l, hr, _, o => o ρ H [] (Ex.refl _ _) hr .nil
  | (f, g) :: ps, ρ, ls, h, H, l, hr, eE, o => by
    subst eE
    unfold ePairs at o
    refine ⟨ρ, ls, h, l, hr, ?_⟩
    show Out K N ρ H (f ls h) _ _
    cases e1 : f ls h with
    | ok x h1 =>
      rw [e1] at o
      simp only at o
      intro ρ1 H1 v ex1 r1 rx
      refine ⟨ρ1, ls, h1, l.ex ex1, r1, ?_⟩
      show Out K N ρ1 H1 (g ls h1) _ _
      cases e2 : g ls h1 with
      | ok y h2 =>
        rw [e2] at o
        simp only at o
        intro ρ2 H2 u ex2 r2 ry
        refine pairs_in ps ((l.ex ex1).ex ex2) r2 rfl ?_
        cases e3 : ePairs ps ls h2 with
        | ok kvs h3 =>
          rw [e3] at o
          intro ρ3 H3 qs ex3 r3 rr
          exact o ρ3 H3 _ ((ex1.trans ex2).trans ex3) r3 (.cons ((rx.ex ex2).ex ex3) (ry.ex ex3) rr)
        | exc c fs h3 => rw [e3] at o; exact fun ρ3 H3 d ex3 r3 z => o ρ3 H3 d ((ex1.trans ex2).trans ex3) r3 z
        | bad => rw [e3] at o; exact o.elim
      | exc c fs h2 => rw [e2] at o; exact fun ρ2 H2 d ex2 r2 z => o ρ2 H2 d (ex1.trans ex2) r2 z
      | bad => rw [e2] at o; exact o.elim
    | exc c fs h1 => rw [e1] at o; exact o
    | bad => rw [e1] at o; exact o.elim
theorem keys_in {K : PySem.W.Frag} {ρ : List Addr} {H : Hp} : ∀ {ps : List (W × W)} {qs : List (V × V)} {l : List (Key × W)}, PRs K ρ H ps qs → keysOf ps = some l →
    ∃ l' : List (Key × V), qs = l'.map (fun kv => (kV kv.1, kv.2)) ∧ l.map (·.1) = l'.map (·.1) ∧ VRs K ρ H (l.map (·.2)) (l'.map (·.2))
  | [], [], l, .nil, e => by simp [keysOf] at e; subst e; exact ⟨[], rfl, rfl, .nil⟩
  | (k, w) :: ps, q :: qs, l, .cons r1 r2 r, e => by
    unfold keysOf at e
    split at e
    · rename_i k' l1 e1 e2
      cases e
      obtain ⟨l', h1, h2, h3⟩ := keys_in r e2
      refine ⟨(k', q.2) :: l', ?_, by simp [h2], .cons r2 h3⟩
      rw [h1, List.map_cons, ← key_of r1 e1]
    · cases e
theorem merge_in {K : PySem.W.Frag} {ρ : List Addr} {H : Hp} : ∀ {l : List (Key × W)} {l' : List (Key × V)} {a : List (Key × W)} {a' : List (Key × V)}, l.map (·.1) = l'.map (·.1) → VRs K ρ H (l.map (·.2)) (l'.map (·.2)) →
    a.map (·.1) = a'.map (·.1) → VRs K ρ H (a.map (·.2)) (a'.map (·.2)) →
    (l.foldl (fun acc kv => dPut acc kv.1 kv.2) a).map (·.1) = (mergeK a' l').map (·.1) ∧ VRs K ρ H ((l.foldl (fun acc kv => dPut acc kv.1 kv.2) a).map (·.2)) ((mergeK a' l').map (·.2))
  | [], [], a, a', _, _, h1, h2 => ⟨h1, h2⟩
  | [], _ :: _, _, _, e, _, _, _ => by cases e
  | _ :: _, [], _, _, e, _, _, _ => by cases e
  | p :: l, p' :: l', a, a', e, r, h1, h2 => by
    simp only [List.map_cons, List.cons.injEq] at e
    cases r with
    | cons q r =>
      obtain ⟨z1, z2⟩ := dPut_of (k := p.1) h1 h2 q
      have := merge_in (a := dPut a p.1 p.2) (a' := putK a' p.1 p'.2) e.2 r z1 z2
      rw [e.1] at this
      simpa [mergeK, e.1] using this
theorem r_dct (h : PPs X pos ks vs (liftPs X.K N Wx ps)) (hall : ks.all (·.isSome) = true) (hl : ks.length = vs.length) (h0 : ks ≠ []) (h15 : ks.length ≤ 15) : PE X (.Dict ks vs pos) (LE X.K N Wx (eDct ps)) := by
  refine PE.imp (pe_disp h hall hl h0 h15) fun σ H Q h => ?_
  obtain ⟨ρ, ls, hp, l, hr, o⟩ := h
  intro p hn
  have ex0 : Ex ρ ρ H (upd H p (.dK [])) := Ex.other hn
  have hr0 : HR X.K N ρ hp (upd H p (.dK [])) := hr.other hn
  refine pairs_in ps (l.ex ex0) hr0 rfl ?_
  unfold eDct at o
  cases e1 : ePairs ps ls hp with
  | ok kvs h2 =>
    rw [e1] at o
    simp only at o
    intro ρ' H' qs ex r rr
    split at o
    · rename_i l1 g2
      split at o
      · rename_i hz
        have np : p ∉ ρ := fun m => hr.fresh hn p m rfl
        obtain ⟨z1, np'⟩ := ex.fr p _ upd_same (fun _ z => nomatch z) np
        obtain ⟨l', y1, y2, y3⟩ := keys_in rr g2
        refine ⟨z1, l', y1, ?_, ?_⟩
        · have := congrArg List.length y2
          simp only [List.length_map] at this
          omega
        · obtain ⟨m1, m2⟩ := merge_in (a := []) (a' := []) y2 y3 rfl .nil
          have he : HE H' (upd H' p (.dK (mergeK [] l'))) := HE.upd z1 (fun _ z => nomatch z) (fun _ _ z => nomatch z)
          have pre : ρ' <+: ρ' ++ [p] := List.prefix_append _ _
          exact o (ρ' ++ [p]) _ _ (Ex.adopt hn ex he) (r.adopt np' he (.dct m1 (m2.mono pre he))) (.ref (r.at_new p))
      · exact o.elim
    · exact o.elim
  | exc c fs h2 => rw [e1] at o; exact fun ρ' H' d ex r z => o ρ' H' d (ex0.trans ex) r z
  | bad => rw [e1] at o; exact o.elim
theorem r_dct0 : PE X (.Dict [] [] pos) (LE X.K N Wx (fun _ h => .ok (.ref h.nx) (h.new (.dct [])))) := PE.imp pe_dnewK fun σ H Q ⟨ρ, ls, hp, l, hr, o⟩ p hn => by
  have pre : ρ <+: ρ ++ [p] := List.prefix_append _ _
  exact o (ρ ++ [p]) _ _ (Ex.alloc hn) (hr.new hn (.dct rfl .nil)) (.ref (hr.at_new p))
end
end Ev
set_option maxRecDepth 100000
/-! EvStmt: statements, targets, loops, comprehensions. -/
namespace Ev
open PySem L2

/-! ### equality of values, as a Bool -/
mutual
def W.eqb : W → W → Bool
  | .non, .non => true
  | .bl a, .bl b => a == b
  | .int a, .int b => a == b
  | .str a, .str b => decide (a = b)
  | .tup a, .tup b => W.eqbs a b
  | .fl a, .fl b => W.eqbs a b
  | .ref a, .ref b => a == b
  | .gl a, .gl b => a == b
  | .ty a, .ty b => a == b
  | _, _ => false
def W.eqbs : List W → List W → Bool
  | [], [] => true
  | x :: xs, y :: ys => W.eqb x y && W.eqbs xs ys
  | _, _ => false
end
mutual
theorem W.eq_of : ∀ {a b : W}, W.eqb a b = true → a = b
  | .non, b, h => by cases b <;> simp_all [W.eqb]
  | .bl _, b, h => by cases b <;> simp_all [W.eqb]
  | .int _, b, h => by cases b <;> simp_all [W.eqb]
  | .str _, b, h => by cases b <;> simp_all [W.eqb]
  | .tup xs, b, h => by
    cases b with
    | tup ys => rw [W.eqb] at h; rw [W.eqs_of h]
    | _ => simp [W.eqb] at h
  | .fl xs, b, h => by
    cases b with
    | fl ys => rw [W.eqb] at h; rw [W.eqs_of h]
    | _ => simp [W.eqb] at h
  | .ref _, b, h => by cases b <;> simp_all [W.eqb]
  | .gl _, b, h => by cases b <;> simp_all [W.eqb]
  | .ty _, b, h => by cases b <;> simp_all [W.eqb]
theorem W.eqs_of : ∀ {a b : List W}, W.eqbs a b = true → a = b
  | [], b, h => by cases b <;> simp_all [W.eqbs]
  | x :: xs, b, h => by
    cases b with
    | nil => simp [W.eqbs] at h
    | cons y ys =>
      rw [W.eqbs, Bool.and_eq_true] at h
      rw [W.eq_of h.1, W.eqs_of h.2]
end
mutual
theorem W.eqb_refl : ∀ a : W, W.eqb a a = true
  | .non => by simp [W.eqb]
  | .bl _ => by simp [W.eqb]
  | .int _ => by simp [W.eqb]
  | .str _ => by simp [W.eqb]
  | .tup xs => by rw [W.eqb]; exact W.eqbs_refl xs
  | .fl xs => by rw [W.eqb]; exact W.eqbs_refl xs
  | .ref _ => by simp [W.eqb]
  | .gl _ => by simp [W.eqb]
  | .ty _ => by simp [W.eqb]
theorem W.eqbs_refl : ∀ a : List W, W.eqbs a a = true
  | [] => by simp [W.eqbs]
  | x :: xs => by rw [W.eqbs, W.eqb_refl x, W.eqbs_refl xs]; rfl
end

/-! ### plain statements -/
def sNil : SS := fun ls h => .nx ls h
def sSeq (s t : SS) : SS := fun ls h => match s ls h with
  | .nx ls1 h1 => t ls1 h1
  | r => r
/-- a value to a target -/
abbrev SG := W → Ls → Heap → SR
def gNm (i : Nat) : SG := fun w ls h => .nx (ls.set i (some w)) h
def sAsg (f : SE) (g : SG) : SS := fun ls h => match f ls h with
  | .ok w h1 => g w ls h1
  | .exc c fs h1 => .exc c fs ls h1
  | .bad => .bad
def sExpr (f : SE) : SS := sAsg f fun _ ls h => .nx ls h
def sRet (f : SE) : SS := sAsg f fun w _ h => .rt w h
def sRetN : SS := fun _ h => .rt .non h
def sBrk : SS := fun ls h => .bk ls h
def sCnt : SS := fun ls h => .ct ls h
def sIf (t : SB) (a b : SS) : SS := fun ls h => match t ls h with
  | .ok true h1 => a ls h1
  | .ok false h1 => b ls h1
  | .exc c fs h1 => .exc c fs ls h1
  | .bad => .bad
/-- o[i] = value -/
def wSet : W → W → W → Heap → Option Heap
  | .ref n, k, w, h => match h.get n with
    | some (.dct kvs) => match keyOf k with
      | some k => if kvs.length < sizeLine then some (h.put n (.dct (dPut kvs k w))) else none
      | none => none
    | some (.lst xs) => match k with
      | .int i => match ixN xs.length i with
        | some j => some (h.put n (.lst (xs.set j w)))
        | none => none
      | _ => none
    | _ => none
  | _, _, _, _ => none
def gSb (f g : SE) : SG := fun w ls h => match f ls h with
  | .ok x h1 => match g ls h1 with
    | .ok y h2 => match wSet x y w h2 with
      | some h3 => .nx ls h3
      | none => .bad
    | .exc c fs h2 => .exc c fs ls h2
    | .bad => .bad
  | .exc c fs h1 => .exc c fs ls h1
  | .bad => .bad
/-- several targets, one after another -/
def gEach : List SG → List W → Ls → Heap → SR
  | [], [], ls, h => .nx ls h
  | g :: gs, w :: ws, ls, h => match g w ls h with
    | .nx ls1 h1 => gEach gs ws ls1 h1
    | r => r
  | _, _, _, _ => .bad
def gTp (gs : List SG) : SG := fun w ls h => match w with
  | .tup xs => if xs.length = gs.length then gEach gs xs ls h else .bad
  | _ => .bad
/-- what a target's step may end in -/
def OutG (K : PySem.W.Frag) (N : Nm) (ρ : List Addr) (H : Hp) (r : SR) (Q : St → Hp → Prop) (Wx : WX) : Prop := match r with
  | .nx ls' h' => ∀ ρ' σ' H', Ex ρ ρ' H H' → LR K ρ' H' ls' σ' → HR K N ρ' h' H' → Q σ' H'
  | .exc c fs ls' h' => ∀ ρ' σ' H' d, Ex ρ ρ' H H' → LR K ρ' H' ls' σ' → HR K N ρ' h' H' → XR K N ρ' H' fs d → Wx (.ref (N.ca c)) d σ' H'
  | _ => False
def LG (K : PySem.W.Frag) (N : Nm) (Wx : WX) (g : SG) : TG := fun v σ H Q => ∃ ρ ls h w, LR K ρ H ls σ ∧ HR K N ρ h H ∧ VR K ρ H w v ∧ OutG K N ρ H (g w ls h) Q Wx
def LGs (K : PySem.W.Frag) (N : Nm) (Wx : WX) (gs : List SG) : TGs := fun vs σ H Q => ∃ ρ ls h ws, LR K ρ H ls σ ∧ HR K N ρ h H ∧ VRs K ρ H ws vs ∧ OutG K N ρ H (gEach gs ws ls h) Q Wx
theorem OutG.ex {K : PySem.W.Frag} {N : Nm} {ρ ρ1 : List Addr} {H H1 : Hp} {r : SR} {Q : St → Hp → Prop} {Wx : WX} (e : Ex ρ ρ1 H H1) (h : OutG K N ρ H r Q Wx) : OutG K N ρ1 H1 r Q Wx := by
  cases r with
  | nx ls h' => exact fun ρ' σ' H' e' => h ρ' σ' H' (e.trans e')
  | exc c fs ls h' => exact fun ρ' σ' H' d e' => h ρ' σ' H' d (e.trans e')
  | _ => exact h
theorem OutG.of_S {K : PySem.W.Frag} {N : Nm} {ρ : List Addr} {H : Hp} {r : SR} {D : Ends} {Wx : WX} (h : OutS K N ρ H r D Wx) (p : (∃ ls h, r = .nx ls h) ∨ (∃ c fs ls h, r = .exc c fs ls h)) : OutG K N ρ H r D.nx Wx := by
  rcases p with ⟨ls, h', rfl⟩ | ⟨c, fs, ls, h', rfl⟩
  · exact h
  · exact h
/-- a target: it only goes on or lets an exception out -/
def onlyOn : SR → Prop
  | .rt _ _ => False
  | .bk _ _ => False
  | .ct _ _ => False
  | _ => True
def GOk (g : SG) : Prop := ∀ w ls h, onlyOn (g w ls h)
theorem GOk.out {K : PySem.W.Frag} {N : Nm} {ρ : List Addr} {H : Hp} {g : SG} {w : W} {ls : Ls} {h : Heap} {D : Ends} {Wx : WX} (k : GOk g) (o : OutS K N ρ H (g w ls h) D Wx) : OutG K N ρ H (g w ls h) D.nx Wx := by
  have z := k w ls h
  cases e : g w ls h with
  | nx => rw [e] at o; exact o
  | exc => rw [e] at o; exact o
  | bad => rw [e] at o; exact o.elim
  | rt => rw [e] at z; exact z.elim
  | bk => rw [e] at z; exact z.elim
  | ct => rw [e] at z; exact z.elim
section
variable {X : Cx} {N : Nm} {Wx : WX} {pos : Pos} {e a b c tg : PySem.Expr} {st : PySem.Stmt} {rest body : List PySem.Stmt} {f g : SE} {s t : SS} {tb : SB} {tG : SG}
theorem PG.imp {X : Cx} {e : PySem.Expr} {t t' : TG} (h : PG X e t) (i : ∀ v σ H Q, t' v σ H Q → t v σ H Q) : PG X e t' := ⟨fun pins s σ H v u Q I r q => h.run pins s σ H v u Q I r (i v σ H Q q)⟩
theorem PGs.imp {X : Cx} {e : List PySem.Expr} {t t' : TGs} (h : PGs X e t) (i : ∀ v σ H Q, t' v σ H Q → t v σ H Q) : PGs X e t' := ⟨fun pins s σ H v u Q I r q => h.run pins s σ H v u Q I r (i v σ H Q q)⟩
theorem s_nil : PSs X [] (LS X.K N Wx sNil) := PSs.imp pss_nil fun D σ H ⟨ρ, ls, h, l, hr, o⟩ => o ρ σ H (Ex.refl _ _) l hr
theorem s_cons (h1 : PS X st (LS X.K N Wx s)) (h2 : PSs X rest (LS X.K N Wx t)) : PSs X (st :: rest) (LS X.K N Wx (sSeq s t)) := by
  refine PSs.imp (pss_cons h1 h2) fun D σ H h => ?_
  obtain ⟨ρ, ls, hp, l, hr, o⟩ := h
  refine ⟨ρ, ls, hp, l, hr, ?_⟩
  unfold sSeq at o
  cases e : s ls hp with
  | nx ls1 h1 => rw [e] at o; exact fun ρ' σ' H' ex lr r => ⟨ρ', ls1, h1, lr, r, OutS.ex ex o⟩
  | rt => rw [e] at o; exact o
  | bk => rw [e] at o; exact o
  | ct => rw [e] at o; exact o
  | exc => rw [e] at o; exact o
  | bad => rw [e] at o; exact o.elim
theorem s_one (h1 : PS X st (LS X.K N Wx s)) : PSs X [st] (LS X.K N Wx s) := PSs.imp (pss_one h1) fun D σ H h => h
theorem s_pass : PS X (.Pass pos) (LS X.K N Wx sNil) := PS.imp ps_pass fun D σ H ⟨ρ, ls, h, l, hr, o⟩ => o ρ σ H (Ex.refl _ _) l hr
theorem s_break : PS X (.Break pos) (LS X.K N Wx sBrk) := PS.imp ps_break fun D σ H ⟨ρ, ls, h, l, hr, o⟩ => o ρ σ H (Ex.refl _ _) l hr
theorem s_continue : PS X (.Continue pos) (LS X.K N Wx sCnt) := PS.imp ps_continue fun D σ H ⟨ρ, ls, h, l, hr, o⟩ => o ρ σ H (Ex.refl _ _) l hr
theorem s_expr (he : PE X e (LE X.K N Wx f)) (hs : swapsWith e none pos.line X.env = pure false := by rfl) : PS X (.Expr e pos) (LS X.K N Wx (sExpr f)) := by
  refine PS.imp (ps_expr he hs) fun D σ H h => ?_
  obtain ⟨ρ, ls, hp, l, hr, o⟩ := h
  refine ⟨ρ, ls, hp, l, hr, ?_⟩
  unfold sExpr sAsg at o
  cases e : f ls hp with
  | ok w h1 => rw [e] at o; exact fun ρ' H' v ex r x => o ρ' σ H' ex (l.ex ex) r
  | exc c fs h1 => rw [e] at o; exact fun ρ' H' d ex r x => o ρ' σ H' d ex (l.ex ex) r x
  | bad => rw [e] at o; exact o.elim
theorem s_ret (he : PE X e (LE X.K N Wx f)) : PS X (.Return (some e) pos) (LS X.K N Wx (sRet f)) := by
  refine PS.imp (ps_ret he) fun D σ H h => ?_
  obtain ⟨ρ, ls, hp, l, hr, o⟩ := h
  refine ⟨ρ, ls, hp, l, hr, ?_⟩
  unfold sRet sAsg at o
  cases e : f ls hp with
  | ok w h1 => rw [e] at o; exact fun ρ' H' v ex r x => o ρ' H' v ex r x
  | exc c fs h1 => rw [e] at o; exact fun ρ' H' d ex r x => o ρ' σ H' d ex (l.ex ex) r x
  | bad => rw [e] at o; exact o.elim
theorem s_retN : PS X (.Return none pos) (LS X.K N Wx sRetN) := PS.imp ps_retN fun D σ H ⟨ρ, ls, h, l, hr, o⟩ => o ρ H .non (Ex.refl _ _) hr .non
theorem s_if {body' : List PySem.Stmt} (hc : PT X c (LT X.K N Wx tb)) (ha : PSs X body (LS X.K N Wx s)) (hb : PSs X body' (LS X.K N Wx t)) : PS X (.If c body body' pos) (LS X.K N Wx (sIf tb s t)) := by
  refine PS.imp (ps_if hc ha hb) fun D σ H h => ?_
  obtain ⟨ρ, ls, hp, l, hr, o⟩ := h
  refine ⟨ρ, ls, hp, l, hr, ?_⟩
  unfold sIf at o
  cases e : tb ls hp with
  | ok b h1 =>
    rw [e] at o
    intro ρ' H' ex r
    cases b with
    | true => rw [if_pos rfl]; exact ⟨ρ', ls, h1, l.ex ex, r, OutS.ex ex o⟩
    | false => rw [if_neg Bool.false_ne_true]; exact ⟨ρ', ls, h1, l.ex ex, r, OutS.ex ex o⟩
  | exc c fs h1 => rw [e] at o; exact fun ρ' H' d ex r x => o ρ' σ H' d ex (l.ex ex) r x
  | bad => rw [e] at o; exact o.elim
/-- name = value -/
theorem asg_in {K : PySem.W.Frag} {D : Ends} {σ : St} {H : Hp} (k : GOk tG) (h : LS K N Wx (sAsg f tG) D σ H) : LE K N Wx f σ H fun x H1 => LG K N Wx tG x σ H1 D.nx := by
  obtain ⟨ρ, ls, hp, l, hr, o⟩ := h
  refine ⟨ρ, ls, hp, l, hr, ?_⟩
  unfold sAsg at o
  cases e : f ls hp with
  | ok w h1 => rw [e] at o; exact fun ρ' H' v ex r x => ⟨ρ', ls, h1, w, l.ex ex, r, x, k.out (OutS.ex ex o)⟩
  | exc c fs h1 => rw [e] at o; exact fun ρ' H' d ex r x => o ρ' σ H' d ex (l.ex ex) r x
  | bad => rw [e] at o; exact o.elim
theorem gnm_ok (i : Nat) : GOk (gNm i) := fun _ _ _ => True.intro
theorem gnm_in {K : PySem.W.Frag} {i : Nat} {v : V} {σ : St} {H : Hp} {Q : St → Hp → Prop} (h : LG K N Wx (gNm i) v σ H Q) : gName i v σ H Q := by
  obtain ⟨ρ, ls, hp, w, l, hr, x, o⟩ := h
  exact o ρ _ H (Ex.refl _ _) (l.set i x) hr
theorem s_set {i : Nat} {x : Str} {pos' : Pos} (hN : X.N.Nodup) (hi : X.N[i]? = some x) (hx : Loc X.env.scope x) (he : PE X e (LE X.K N Wx f)) (hs : swapsWith e (some (.Name x pos')) pos.line X.env = pure false := by rfl) (hf : X.fn x = true ∨ X.env.scope.names.lookup x = some .local := by first | exact .inl rfl | exact .inr rfl | assumption) :
    PS X (.Assign [.Name x pos'] e pos) (LS X.K N Wx (sAsg f (gNm i))) := by
  refine PS.imp (ps_set hN hi hx he hs hf) fun D σ H h => ?_
  obtain ⟨ρ, ls, hp, l, hr, o⟩ := asg_in (gnm_ok i) h
  exact ⟨ρ, ls, hp, l, hr, o.mono (fun v H' z => gnm_in z) fun _ _ _ z => z⟩
theorem g_name {i : Nat} {x : Str} (hN : X.N.Nodup) (hi : X.N[i]? = some x) (hx : Loc X.env.scope x) (hf : X.fn x = true ∨ X.env.scope.names.lookup x = some .local := by first | exact .inl rfl | exact .inr rfl | assumption) : PG X (.Name x pos) (LG X.K N Wx (gNm i)) :=
  PG.imp (pg_name hN hi hx hf) fun v σ H Q h => gnm_in h
theorem gs_nil : PGs X [] (LGs X.K N Wx []) := PGs.imp pgs_nil fun vs σ H Q ⟨ρ, ls, h, ws, l, hr, x, o⟩ => by
  cases x with
  | nil => exact ⟨rfl, o ρ σ H (Ex.refl _ _) l hr⟩
  | cons => exact o.elim
theorem gs_cons {es : List PySem.Expr} {gs : List SG} (h1 : PG X e (LG X.K N Wx tG)) (h2 : PGs X es (LGs X.K N Wx gs)) (k : GOk tG)
    (hs : (assignEach (e :: es) X.env).map (·.2) = assign e X.env :: (assignEach es X.env).map (·.2) := by rfl) : PGs X (e :: es) (LGs X.K N Wx (tG :: gs)) := by
  refine PGs.imp (pgs_cons h1 h2 hs) fun vs σ H Q h => ?_
  obtain ⟨ρ, ls, hp, ws, l, hr, x, o⟩ := h
  cases x with
  | nil => exact o.elim
  | @cons w v ws vs q r =>
    refine ⟨_, _, rfl, ρ, ls, hp, w, l, hr, q, ?_⟩
    unfold gEach at o
    have z := k w ls hp
    cases e1 : tG w ls hp with
    | nx ls1 h1 => rw [e1] at o; exact fun ρ' σ' H' ex lr r' => ⟨ρ', ls1, h1, ws, lr, r', r.ex ex, OutG.ex ex o⟩
    | exc => rw [e1] at o; exact o
    | bad => rw [e1] at o; exact o.elim
    | rt => rw [e1] at z; exact z.elim
    | bk => rw [e1] at z; exact z.elim
    | ct => rw [e1] at z; exact z.elim
def GsOk : List SG → Prop
  | [] => True
  | g :: gs => GOk g ∧ GsOk gs
theorem geach_ok : ∀ {gs : List SG}, GsOk gs → ∀ ws ls h, onlyOn (gEach gs ws ls h)
  | [], _, [], _, _ => True.intro
  | [], _, _ :: _, _, _ => True.intro
  | _ :: _, _, [], _, _ => True.intro
  | g :: gs, k, w :: ws, ls, h => by
    have z := k.1 w ls h
    unfold gEach
    cases e : g w ls h with
    | nx ls1 h1 => exact geach_ok k.2 ws ls1 h1
    | exc => exact True.intro
    | bad => exact True.intro
    | rt => rw [e] at z; exact z
    | bk => rw [e] at z; exact z
    | ct => rw [e] at z; exact z
theorem gtp_ok {gs : List SG} (k : GsOk gs) : GOk (gTp gs) := fun w ls h => by
  cases w with
  | tup xs =>
    show onlyOn (if xs.length = gs.length then gEach gs xs ls h else .bad)
    split
    · exact geach_ok k xs ls h
    · exact True.intro
  | _ => exact True.intro
theorem gsb_ok (f g : SE) : GOk (gSb f g) := fun w ls h => by
  unfold gSb
  cases f ls h with
  | ok x h1 =>
    simp only
    cases g ls h1 with
    | ok y h2 =>
      simp only
      cases wSet x y w h2 <;> exact True.intro
    | _ => exact True.intro
  | _ => exact True.intro
/-- a tuple taken apart; every item has its target -/
theorem g_tup {es : List PySem.Expr} {k n : Nat} {gs : List SG} (hc : X.calm = true) (h : PGs X es (LGs X.K N Wx gs)) (hg : GsOk gs) (hl : gs.length = n)
    (hn : (assignEach es X.env).length = n := by rfl) (hst : (assignEach es X.env).findIdx? (·.1) = none := by rfl) : PG X (.Tuple es k pos) (LG X.K N Wx (gTp gs)) := by
  subst hl
  refine PG.imp (pg_tup hc h hn hst) fun v σ H Q h => ?_
  obtain ⟨ρ, ls, hp, w, l, hr, x, o⟩ := h
  cases x with
  | @tup xs ys a q r =>
    simp only [gTp] at o
    split at o
    · rename_i z
      exact ⟨a, ys, rfl, q, by rw [← r.length]; exact z, ρ, ls, hp, xs, l, hr, r, o⟩
    · exact o.elim
  | _ => exact o.elim
def rSetDct : V → V → V → Hp → (Hp → Prop) → Prop := fun o i v H Q => ∃ a H4, o = .ref a ∧ DPut H a i v H4 ∧ Q H4
theorem set_dct (hu : X.A.units + 1 < cLine) : PSet X rSetDct := by
  intro pins s σ H o i v ov iv u Q I ro ri rv h
  obtain ⟨a, H4, rfl, g, q⟩ := h
  obtain rfl : ov = Value.ref a := ro
  exact d_setItem hu I g ri rv fun s4 I4 => ⟨H4, I4, q⟩
theorem PSet.or {t t' : TSet} (h : PSet X t) (h' : PSet X t') : PSet X (fun o i v H Q => t o i v H Q ∨ t' o i v H Q) := by
  intro pins s σ H o i v ov iv u Q I ro ri rv q
  rcases q with q | q
  · exact h pins s σ H o i v ov iv u Q I ro ri rv q
  · exact h' pins s σ H o i v ov iv u Q I ro ri rv q
theorem set_in {K : PySem.W.Frag} {ρ : List Addr} {h h3 : Heap} {H : Hp} {x y w : W} {o i v : V} {Q : Hp → Prop} (hr : HR K N ρ h H) (rx : VR K ρ H x o) (ry : VR K ρ H y i) (rw_ : VR K ρ H w v) (e : wSet x y w h = some h3)
    (q : ∀ H', Ex ρ ρ H H' → HR K N ρ h3 H' → Q H') : rSetL o i v H Q ∨ rSetDct o i v H Q := by
  cases rx with
  | @ref n a qn =>
    simp only [wSet] at e
    split at e
    · rename_i kvs ek
      split at e
      · rename_i k ekk
        split at e
        · rename_i hz
          cases e
          obtain ⟨kvs', h1, h2, h3⟩ := dct_of hr ek qn
          obtain ⟨z1, z2⟩ := dPut_of (k := k) h2 h3 rw_
          obtain ⟨w1, w2⟩ := hr.setD qn h1 z1 z2
          right
          refine ⟨a, _, rfl, ?_, q _ (Ex.put qn w2) w1⟩
          rw [key_of ry ekk]
          refine DPut.k h1 ?_
          have := congrArg List.length h2
          simp only [List.length_map] at this
          omega
        · cases e
      · cases e
    · rename_i xs ex
      split at e
      · rename_i j
        split at e
        · rename_i jj ej
          cases e
          obtain ⟨ys, h1, h2⟩ := lst_mut hr ex qn
          cases ry
          obtain ⟨w1, w2⟩ := hr.setL qn h1 (h2.set rw_ jj)
          left
          exact ⟨a, ys, j, jj, rfl, rfl, h1, by rw [← h2.length]; exact ej, q _ (Ex.put qn w2) w1⟩
        · cases e
      · cases e
    · cases e
  | _ => simp [wSet] at e
theorem g_sub (hu : X.A.units + 1 < cLine) (ho : PE X a (LE X.K N Wx f)) (hi : PE X b (LE X.K N Wx g))
    (ha : ∀ v, assign (.Subscript a b pos) X.env v = (do
      let ov ← holding [v] (eval a X.env)
      let iv ← holding [v, ov] (eval b X.env)
      standAt pos
      holding [v, ov, iv] (setItem ov iv v)
      release [v, ov, iv] []) := by intro _; rfl) : PG X (.Subscript a b pos) (LG X.K N Wx (gSb f g)) := by
  refine PG.imp (pg_sub ho hi (PSet.or set_list (set_dct hu)) ha) fun v σ H Q h => ?_
  obtain ⟨ρ, ls, hp, w, l, hr, x, o⟩ := h
  refine ⟨ρ, ls, hp, l, hr, ?_⟩
  unfold gSb at o
  cases e1 : f ls hp with
  | ok x1 h1 =>
    rw [e1] at o
    simp only at o
    intro ρ1 H1 v1 ex1 r1 rx1
    refine ⟨ρ1, ls, h1, l.ex ex1, r1, ?_⟩
    cases e2 : g ls h1 with
    | ok x2 h2 =>
      rw [e2] at o
      simp only at o
      intro ρ2 H2 v2 ex2 r2 rx2
      split at o
      · rename_i h3 e3
        exact set_in r2 (rx1.ex ex2) rx2 ((x.ex ex1).ex ex2) e3 fun H' ex3 r3 => o ρ2 σ H' ((ex1.trans ex2).trans ex3) (((l.ex ex1).ex ex2).ex ex3) r3
      · exact o.elim
    | exc c fs h2 => rw [e2] at o; exact fun ρ2 H2 d ex2 r2 z => o ρ2 σ H2 d (ex1.trans ex2) ((l.ex ex1).ex ex2) r2 z
    | bad => rw [e2] at o; exact o.elim
  | exc c fs h1 => rw [e1] at o; exact fun ρ1 H1 d ex1 r1 z => o ρ1 σ H1 d ex1 (l.ex ex1) r1 z
  | bad => rw [e1] at o; exact o.elim
/-- target = value, any target -/
theorem s_asg (he : PE X e (LE X.K N Wx f)) (hg : PG X tg (LG X.K N Wx tG)) (k : GOk tG) (hs : swapsWithSole [tg] e pos.line X.env = pure false := by rfl) (hw : swappedStores [tg] e X.env = pure none := by rfl)
    (h1 : (assignEach [tg] X.env).map (·.2) = [assign tg X.env] := by rfl) : PS X (.Assign [tg] e pos) (LS X.K N Wx (sAsg f tG)) :=
  PS.imp (ps_asg he hg hs hw h1) fun D σ H h => asg_in k h
/-- x, y = a, b with plain local names -/
def sPar2 (i j : Nat) (gs : SEs) : SS := fun ls h => match gs ls h with
  | .ok [v, w] h1 => .nx ((ls.set i (some v)).set j (some w)) h1
  | .ok _ _ => .bad
  | .exc c fs h1 => .exc c fs ls h1
  | .bad => .bad
theorem s_par2 {i j : Nat} {x y : Str} {gs : SEs} {px py pt : Pos} {kt k2 pt2} (hc : X.calm = true) (hN : X.N.Nodup) (hi : X.N[i]? = some x) (hj : X.N[j]? = some y) (hij : i ≠ j)
    (hx : X.env.scope.names.lookup x = some .local) (hy : X.env.scope.names.lookup y = some .local) (ha : PA X [a, b] (LA X.K N Wx gs))
    (hw : swappedStores [.Tuple [.Name x px, .Name y py] kt pt] (.Tuple [a, b] k2 pt2) X.env = pure (some [x, y]))
    (hs : swapsWithSole [.Tuple [.Name x px, .Name y py] kt pt] (.Tuple [a, b] k2 pt2) pos.line X.env = pure false := by rfl) :
    PS X (.Assign [.Tuple [.Name x px, .Name y py] kt pt] (.Tuple [a, b] k2 pt2) pos) (LS X.K N Wx (sPar2 i j gs)) := by
  refine PS.imp (ps_par hc hN hi hj hij hx hy ha hw hs) fun D σ H h => ?_
  obtain ⟨ρ, ls, hp, l, hr, o⟩ := h
  refine ⟨ρ, ls, hp, l, hr, ?_⟩
  unfold sPar2 at o
  cases e : gs ls hp with
  | ok ws h1 =>
    rw [e] at o
    intro ρ' H' vs ex r x
    cases x with
    | nil => exact o.elim
    | cons p x => cases x with
      | nil => exact o.elim
      | cons p' x => cases x with
        | nil => exact ⟨_, _, rfl, o ρ' _ H' ex (((l.ex ex).set i p).set j p') r⟩
        | cons => exact o.elim
  | exc c fs h1 => rw [e] at o; exact fun ρ' H' d ex r z => o ρ' σ H' d ex (l.ex ex) r z
  | bad => rw [e] at o; exact o.elim
end
end Ev
set_option maxRecDepth 100000
/-! EvLoop: what is walked, for, while, comprehensions. -/
namespace Ev
open PySem L2

/-! ### while: so many turns at most -/
def whileL (t : SB) (s : SS) : Nat → SS
  | 0, _, _ => .bad
  | n + 1, ls, h => match t ls h with
    | .ok true h1 => match s ls h1 with
      | .nx ls2 h2 => whileL t s n ls2 h2
      | .ct ls2 h2 => whileL t s n ls2 h2
      | .bk ls2 h2 => .nx ls2 h2
      | r => r
    | .ok false h1 => .nx ls h1
    | .exc c fs h1 => .exc c fs ls h1
    | .bad => .bad
section
variable {X : Cx} {N : Nm} {Wx : WX} {pos : Pos} {c : PySem.Expr} {body : List PySem.Stmt} {tb : SB} {s : SS}
theorem s_while (n : Nat) (hp : PassesOwn (model X.prog X.w) X.A X.env X.xe) (hc : PT X c (LT X.K N Wx tb)) (hb : PSs X body (LS X.K N Wx s)) : PS X (.While c body [] pos) (LS X.K N Wx (whileL tb s n)) := by
  refine PS.imp (ps_while hp hc hb) fun D σ H h => ?_
  refine ⟨fun m σ H => ∃ ρ ls h, LR X.K ρ H ls σ ∧ HR X.K N ρ h H ∧ OutS X.K N ρ H (whileL tb s m ls h) D Wx, ⟨n, h⟩, ?_⟩
  rintro m σ H ⟨ρ, ls, hp, l, hr, o⟩
  cases m with
  | zero => exact o.elim
  | succ m =>
    refine ⟨ρ, ls, hp, l, hr, ?_⟩
    rw [whileL] at o
    cases e : tb ls hp with
    | ok b h1 =>
      rw [e] at o
      intro ρ1 H1 ex1 r1
      cases b with
      | true =>
        rw [if_pos rfl]
        simp only at o
        refine ⟨fun σ' H' => ∃ ρ ls h, LR X.K ρ H' ls σ' ∧ HR X.K N ρ h H' ∧ OutS X.K N ρ H' (whileL tb s m ls h) D Wx, fun σ' H' z => ⟨m, Nat.lt_succ_self m, z⟩, ρ1, ls, h1, l.ex ex1, r1, ?_⟩
        cases e2 : s ls h1 with
        | nx ls2 h2 => rw [e2] at o; exact fun ρ2 σ2 H2 ex2 l2 r2 => ⟨ρ2, ls2, h2, l2, r2, OutS.ex (ex1.trans ex2) o⟩
        | ct ls2 h2 => rw [e2] at o; exact fun ρ2 σ2 H2 ex2 l2 r2 => ⟨ρ2, ls2, h2, l2, r2, OutS.ex (ex1.trans ex2) o⟩
        | bk ls2 h2 => rw [e2] at o; exact fun ρ2 σ2 H2 ex2 l2 r2 => o ρ2 σ2 H2 (ex1.trans ex2) l2 r2
        | rt w h2 => rw [e2] at o; exact fun ρ2 H2 v ex2 r2 x => o ρ2 H2 v (ex1.trans ex2) r2 x
        | exc c fs ls2 h2 => rw [e2] at o; exact fun ρ2 σ2 H2 d ex2 l2 r2 x => o ρ2 σ2 H2 d (ex1.trans ex2) l2 r2 x
        | bad => rw [e2] at o; exact o.elim
      | false =>
        rw [if_neg Bool.false_ne_true]
        exact o ρ1 σ H1 ex1 (l.ex ex1) r1
    | exc c fs h1 => rw [e] at o; exact fun ρ' H' d ex r x => o ρ' σ H' d ex (l.ex ex) r x
    | bad => rw [e] at o; exact o.elim
end

/-! ### what is walked -/
/-- the lists stand as they stood -/
def gOk (g : List (Nat × List W)) (h : Heap) : Bool := g.all fun p => match lstAt h p.1 with
  | some ys => W.eqbs ys p.2
  | none => false
/-- what an iterator will hand out; the lists that must stay -/
inductive Ri where
  | ok (xs : List W) (g : List (Nat × List W)) (h : Heap)
  | exc (c : Nat) (fs : List (Nat × W)) (h : Heap)
  | bad
abbrev SI := Ls → Heap → Ri
structure SrcOk (K : PySem.W.Frag) (N : Nm) (ρ0 : List Addr) (H0 : Hp) (xs : List W) (g : List (Nat × List W)) (J : It) : Prop where
  go : ∀ i ρ h H, Ex ρ0 ρ H0 H → HR K N ρ h H → gOk g h = true → i < xs.length → J.go i H
  stop : ∀ ρ h H, Ex ρ0 ρ H0 H → HR K N ρ h H → gOk g h = true → J.stop xs.length H
  yld : ∀ i ρ h H x H2, Ex ρ0 ρ H0 H → HR K N ρ h H → gOk g h = true → i < xs.length → J.yld i H x H2 → ∃ w, xs[i]? = some w ∧ VR K ρ H2 w x ∧ HR K N ρ h H2 ∧ Ex ρ ρ H H2
def LI (K : PySem.W.Frag) (N : Nm) (Wx : WX) (f : SI) : TI := fun σ H R => ∃ ρ ls h, LR K ρ H ls σ ∧ HR K N ρ h H ∧ match f ls h with
  | .ok xs g h1 => ∀ ρ' H' J, Ex ρ ρ' H H' → HR K N ρ' h1 H' → SrcOk K N ρ' H' xs g J → R J H'
  | .exc c fs h1 => ∀ ρ' H' d, Ex ρ ρ' H H' → HR K N ρ' h1 H' → XR K N ρ' H' fs d → Wx (.ref (N.ca c)) d σ H'
  | .bad => False
theorem PI.imp {X : Cx} {tg e : PySem.Expr} {t t' : TI} (h : PI X tg e t) (i : ∀ σ H Q, t' σ H Q → t σ H Q) : PI X tg e t' := ⟨fun pins s σ H Q I q => h.run pins s σ H Q I (i σ H Q q)⟩
theorem gOk_one {n : Nat} {xs : List W} {h : Heap} (e : gOk [(n, xs)] h = true) : lstAt h n = some xs := by
  simp only [gOk, List.all_cons, List.all_nil, Bool.and_true] at e
  split at e
  · rename_i ys q; rw [q, W.eqs_of e]
  · cases e
theorem gOk_one' {n : Nat} {xs : List W} {h : Heap} (e : lstAt h n = some xs) : gOk [(n, xs)] h = true := by
  simp [gOk, e, W.eqbs_refl]
theorem gOk_two {n m : Nat} {xs ys : List W} {h : Heap} (e : gOk [(n, xs), (m, ys)] h = true) : lstAt h n = some xs ∧ lstAt h m = some ys := by
  simp only [gOk, List.all_cons, List.all_nil, Bool.and_true, Bool.and_eq_true] at e
  obtain ⟨e1, e2⟩ := e
  constructor
  · split at e1
    · rename_i zs q; rw [q, W.eqs_of e1]
    · cases e1
  · split at e2
    · rename_i zs q; rw [q, W.eqs_of e2]
    · cases e2
section
variable {K : PySem.W.Frag} {N : Nm} {ρ : List Addr} {h : Heap} {H : Hp}
theorem src_list {n : Nat} {a : Addr} {xs : List W} (q : ρ[n]? = some a) : SrcOk K N ρ H xs [(n, xs)] (Itl K a) where
  go := fun i ρ' h' H' ex r g hi => by
    obtain ⟨ys, h1, h2⟩ := lst_of r (gOk_one g) (pre_get ex.pre q)
    obtain ⟨v, hv, _⟩ := h2.get (i := i) (w := xs[i]) (List.getElem?_eq_some_iff.mpr ⟨hi, rfl⟩)
    exact ⟨ys, v, h1, hv⟩
  stop := fun ρ' h' H' ex r g => by
    obtain ⟨ys, h1, h2⟩ := lst_of r (gOk_one g) (pre_get ex.pre q)
    exact ⟨ys, h1, by rw [h2.length]; exact Nat.le_refl _⟩
  yld := fun i ρ' h' H' x H2 ex r g hi y => by
    obtain ⟨rfl, y⟩ := y
    obtain ⟨ys, h1, h2⟩ := lst_of r (gOk_one g) (pre_get ex.pre q)
    obtain ⟨w, e1, e2⟩ := h2.get' (y ys h1)
    exact ⟨w, e1, e2, r, Ex.refl _ _⟩
theorem src_fl {a : Addr} {xs : List W} {ys : List V} (q : SqF K H a ys) (rr : VRs K ρ H xs ys) : SrcOk K N ρ H xs [] (Itl K a) where
  go := fun i ρ' h' H' ex r g hi => by
    obtain ⟨v, hv, _⟩ := rr.get (i := i) (w := xs[i]) (List.getElem?_eq_some_iff.mpr ⟨hi, rfl⟩)
    exact ⟨ys, v, (SqF.he ex.he q).sq, hv⟩
  stop := fun ρ' h' H' ex r g => ⟨ys, (SqF.he ex.he q).sq, by rw [rr.length]; exact Nat.le_refl _⟩
  yld := fun i ρ' h' H' x H2 ex r g hi y => by
    obtain ⟨rfl, y⟩ := y
    obtain ⟨w, e1, e2⟩ := rr.get' (y ys (SqF.he ex.he q).sq)
    exact ⟨w, e1, e2.ex ex, r, Ex.refl _ _⟩
theorem src_str {z : Str} : SrcOk K N ρ H (z.cps.toList.map fun c => W.str ⟨#[c]⟩) [] (Its z) where
  go := fun i ρ' h' H' ex r g hi => by simpa [Its] using hi
  stop := fun ρ' h' H' ex r g => by simp [Its]
  yld := fun i ρ' h' H' x H2 ex r g hi y => by
    obtain ⟨rfl, c, hc, rfl⟩ := y
    exact ⟨.str ⟨#[c]⟩, by simp [hc], .str _, r, Ex.refl _ _⟩
theorem src_range {lo : Int} {n : Nat} : SrcOk K N ρ H ((List.range n).map fun i => W.int (lo + (i : Nat))) [] (Itr lo n) where
  go := fun i ρ' h' H' ex r g hi => by simpa [Itr] using hi
  stop := fun ρ' h' H' ex r g => by simp [Itr]
  yld := fun i ρ' h' H' x H2 ex r g hi y => by
    obtain ⟨rfl, rfl⟩ := y
    have hi' : i < n := by simpa using hi
    exact ⟨.int (lo + (i : Nat)), by simp [hi'], .int _, r, Ex.refl _ _⟩
theorem src_rangeC {lo c : Int} {n : Nat} : SrcOk K N ρ H ((List.range n).map fun i => W.int (lo + (i : Nat) * c)) [] (Itc lo c n) where
  go := fun i ρ' h' H' ex r g hi => by simpa [Itc] using hi
  stop := fun ρ' h' H' ex r g => by simp [Itc]
  yld := fun i ρ' h' H' x H2 ex r g hi y => by
    obtain ⟨rfl, rfl⟩ := y
    have hi' : i < n := by simpa using hi
    exact ⟨.int (lo + (i : Nat) * c), by simp [hi'], .int _, r, Ex.refl _ _⟩
/-- a new pair -/
theorem new_pair {p : Addr} {x y : W} {u v : V} (r : HR K N ρ h H) (hn : H p = none) (rx : VR K ρ H x u) (ry : VR K ρ H y v) : VR K ρ (upd H p (.tup [u, v])) (.tup [x, y]) (.ref p) ∧ HR K N ρ h (upd H p (.tup [u, v])) ∧ Ex ρ ρ H (upd H p (.tup [u, v])) :=
  ⟨.tup (.inl (.inl upd_same)) ((VRs.cons rx (.cons ry .nil)).ex (Ex.other hn)), r.other hn, Ex.other hn⟩
def enumFrom (i : Nat) : List W → List W
  | [] => []
  | x :: xs => .tup [.int i, x] :: enumFrom (i + 1) xs
theorem enumFrom_get : ∀ {xs : List W} {k i : Nat}, (enumFrom k xs)[i]? = xs[i]?.map fun x => W.tup [.int ((k + i : Nat) : Int), x]
  | [], _, _ => by simp [enumFrom]
  | x :: xs, k, 0 => by simp [enumFrom]
  | x :: xs, k, i + 1 => by
    simp only [enumFrom, List.getElem?_cons_succ, enumFrom_get (xs := xs) (k := k + 1) (i := i)]
    rw [show k + 1 + i = k + (i + 1) by omega]
theorem enumFrom_len : ∀ {xs : List W} {k : Nat}, (enumFrom k xs).length = xs.length
  | [], _ => rfl
  | x :: xs, k => by simp [enumFrom, enumFrom_len (xs := xs)]
theorem src_enum {n : Nat} {a : Addr} {xs : List W} (q : ρ[n]? = some a) : SrcOk K N ρ H (enumFrom 0 xs) [(n, xs)] (Ite K a) where
  go := fun i ρ' h' H' ex r g hi => by
    rw [enumFrom_len] at hi
    obtain ⟨ys, h1, h2⟩ := lst_of r (gOk_one g) (pre_get ex.pre q)
    obtain ⟨v, hv, _⟩ := h2.get (i := i) (w := xs[i]) (List.getElem?_eq_some_iff.mpr ⟨hi, rfl⟩)
    exact ⟨ys, v, h1, hv⟩
  stop := fun ρ' h' H' ex r g => by
    obtain ⟨ys, h1, h2⟩ := lst_of r (gOk_one g) (pre_get ex.pre q)
    exact ⟨ys, h1, by rw [enumFrom_len, h2.length]; exact Nat.le_refl _⟩
  yld := fun i ρ' h' H' x H2 ex r g hi y => by
    obtain ⟨T, x0, rfl, hn, rfl, y⟩ := y
    obtain ⟨ys, h1, h2⟩ := lst_of r (gOk_one g) (pre_get ex.pre q)
    obtain ⟨w, e1, e2⟩ := h2.get' (y ys h1)
    obtain ⟨z1, z2, z3⟩ := new_pair r hn (.int (i : Nat)) e2
    exact ⟨_, by rw [enumFrom_get, e1]; simp, z1, z2, z3⟩
theorem src_enumF {a : Addr} {xs : List W} {ys : List V} (q : SqF K H a ys) (rr : VRs K ρ H xs ys) : SrcOk K N ρ H (enumFrom 0 xs) [] (Ite K a) where
  go := fun i ρ' h' H' ex r g hi => by
    rw [enumFrom_len] at hi
    obtain ⟨v, hv, _⟩ := rr.get (i := i) (w := xs[i]) (List.getElem?_eq_some_iff.mpr ⟨hi, rfl⟩)
    exact ⟨ys, v, (SqF.he ex.he q).sq, hv⟩
  stop := fun ρ' h' H' ex r g => ⟨ys, (SqF.he ex.he q).sq, by rw [enumFrom_len, rr.length]; exact Nat.le_refl _⟩
  yld := fun i ρ' h' H' x H2 ex r g hi y => by
    obtain ⟨T, x0, rfl, hn, rfl, y⟩ := y
    obtain ⟨w, e1, e2⟩ := rr.get' (y ys (SqF.he ex.he q).sq)
    obtain ⟨z1, z2, z3⟩ := new_pair r hn (.int (i : Nat)) (e2.ex ex)
    exact ⟨_, by rw [enumFrom_get, e1]; simp, z1, z2, z3⟩
def zipW : List W → List W → List W
  | x :: xs, y :: ys => .tup [x, y] :: zipW xs ys
  | _, _ => []
theorem zipW_get : ∀ {xs ys : List W} {i : Nat} {x y : W}, xs[i]? = some x → ys[i]? = some y → (zipW xs ys)[i]? = some (.tup [x, y])
  | [], _, _, _, _, h, _ => by simp at h
  | _ :: _, [], _, _, _, _, h => by simp at h
  | a :: xs, b :: ys, 0, x, y, h, h' => by simp at h h'; subst h; subst h'; rfl
  | a :: xs, b :: ys, i + 1, x, y, h, h' => by simp only [zipW, List.getElem?_cons_succ] at h h' ⊢; exact zipW_get h h'
theorem zipW_len : ∀ {xs ys : List W}, (zipW xs ys).length = min xs.length ys.length
  | [], _ => by simp [zipW]
  | _ :: _, [] => by simp [zipW]
  | a :: xs, b :: ys => by simp only [zipW, List.length_cons, zipW_len (xs := xs)]; omega
theorem src_zip {n m : Nat} {a b : Addr} {xs ys : List W} (q : ρ[n]? = some a) (q' : ρ[m]? = some b) : SrcOk K N ρ H (zipW xs ys) [(n, xs), (m, ys)] (Itz K a b) where
  go := fun i ρ' h' H' ex r g hi => by
    rw [zipW_len] at hi
    obtain ⟨g1, g2⟩ := gOk_two g
    obtain ⟨us, h1, h2⟩ := lst_of r g1 (pre_get ex.pre q)
    obtain ⟨vs, h3, h4⟩ := lst_of r g2 (pre_get ex.pre q')
    obtain ⟨u, hu, _⟩ := h2.get (i := i) (w := xs[i]'(by omega)) (List.getElem?_eq_some_iff.mpr ⟨by omega, rfl⟩)
    obtain ⟨v, hv, _⟩ := h4.get (i := i) (w := ys[i]'(by omega)) (List.getElem?_eq_some_iff.mpr ⟨by omega, rfl⟩)
    exact ⟨us, vs, u, v, h1, h3, hu, hv⟩
  stop := fun ρ' h' H' ex r g => by
    obtain ⟨g1, g2⟩ := gOk_two g
    obtain ⟨us, h1, h2⟩ := lst_of r g1 (pre_get ex.pre q)
    obtain ⟨vs, h3, h4⟩ := lst_of r g2 (pre_get ex.pre q')
    refine ⟨us, vs, h1, h3, ?_⟩
    rw [zipW_len, h2.length, h4.length]
    omega
  yld := fun i ρ' h' H' x H2 ex r g hi y => by
    obtain ⟨T, x0, y0, rfl, hn, rfl, y1, y2⟩ := y
    obtain ⟨g1, g2⟩ := gOk_two g
    obtain ⟨us, h1, h2⟩ := lst_of r g1 (pre_get ex.pre q)
    obtain ⟨vs, h3, h4⟩ := lst_of r g2 (pre_get ex.pre q')
    obtain ⟨w, e1, e2⟩ := h2.get' (y1 us h1)
    obtain ⟨w', e3, e4⟩ := h4.get' (y2 vs h3)
    obtain ⟨z1, z2, z3⟩ := new_pair r hn e2 e4
    exact ⟨_, zipW_get e1 e3, z1, z2, z3⟩
end
/-- a list, a tuple, a text -/
def iSeq (f : SE) : SI := fun ls h => match f ls h with
  | .ok (.ref n) h1 => match lstAt h1 n with
    | some xs => .ok xs [(n, xs)] h1
    | none => .bad
  | .ok (.tup xs) h1 => .ok xs [] h1
  | .ok (.fl xs) h1 => .ok xs [] h1
  | .ok (.str z) h1 => .ok (z.cps.toList.map fun c => W.str ⟨#[c]⟩) [] h1
  | .ok _ _ => .bad
  | .exc c fs h1 => .exc c fs h1
  | .bad => .bad
section
variable {X : Cx} {N : Nm} {Wx : WX} {pos p : Pos} {a b tg : PySem.Expr} {f g : SE} {gs : SEs}
theorem iter_vals {pins : List (Addr × Obj)} {s : Shared} {σ : St} {H : Hp} {x : V} {v : Value} {R : It → Hp → Prop} {E : Value → Shared → Prop} (I : Inv X pins σ H s) (rx : RelV x v)
    (h : (∃ a xs, x = .ref a ∧ SqL X.K H a xs ∧ R (Itl X.K a) H) ∨ (∃ a xs, x = .ref a ∧ SqT X.K H a xs ∧ R (Itt X.K a) H) ∨ ∃ z, x = .str z ∧ R (Its z) H) : wpAny (model X.prog X.w) X.A (pyIter v) (PIE X pins σ tg R) E s := by
  rcases h with ⟨a, xs, rfl, hq, q⟩ | ⟨a, xs, rfl, hq, q⟩ | ⟨z, rfl, q⟩
  · cases rx
    obtain ⟨its, rv, pl, hz⟩ := I.list hq
    exact wpAny_pyIter_list pl.isList (pi_one (tk := s.toks) I _ (turn_list a _) ⟨_, Heap.get?_push_size _ rfl, rfl, rfl⟩ q)
  · cases rx
    obtain ⟨its, rv, pl, hz⟩ := I.tuple hq
    exact wpAny_pyIter_tuple (show s.heap.IsTuple a its.toArray from pl) (pi_one (tk := s.toks) I _ (turn_tuple a _) ⟨_, Heap.get?_push_size _ rfl, rfl, rfl⟩ q)
  · obtain ⟨t, rfl⟩ := rx
    cases ha : z.cps.all (· < 128)
    · exact wpAny_pyIter_wide ha (pi_one (tk := s.toks) I _ (turn_str _ z t _ (.inr rfl)) ⟨_, Heap.get?_push_size _ rfl, rfl, rfl⟩ q)
    · exact wpAny_pyIter_ascii ha (pi_one (tk := s.toks) I _ (turn_str _ z t _ (.inl rfl)) ⟨_, Heap.get?_push_size _ rfl, rfl, rfl⟩ q)
theorem src_tup' {K : PySem.W.Frag} {ρ : List Addr} {H : Hp} {a : Addr} {xs : List W} {ys : List V} (q : SqT K H a ys) (rr : VRs K ρ H xs ys) : SrcOk K N ρ H xs [] (Itt K a) where
  go := fun i ρ' h' H' ex r g hi => by
    obtain ⟨v, hv, _⟩ := rr.get (i := i) (w := xs[i]) (List.getElem?_eq_some_iff.mpr ⟨hi, rfl⟩)
    exact ⟨ys, v, SqT.he ex.he q, hv⟩
  stop := fun ρ' h' H' ex r g => ⟨ys, SqT.he ex.he q, by rw [rr.length]; exact Nat.le_refl _⟩
  yld := fun i ρ' h' H' x H2 ex r g hi y => by
    obtain ⟨rfl, y⟩ := y
    obtain ⟨w, e1, e2⟩ := rr.get' (y ys (SqT.he ex.he q))
    exact ⟨w, e1, e2.ex ex, r, Ex.refl _ _⟩
theorem i_seq (ha : PE X a (LE X.K N Wx f)) : PI X tg a (LI X.K N Wx (iSeq f)) := by
  refine ⟨fun pins s σ H R I h => ?_⟩
  obtain ⟨ρ, ls, hp, l, hr, o⟩ := h
  have h2 : LE X.K N Wx f σ H fun x H1 => (∃ a xs, x = .ref a ∧ SqL X.K H1 a xs ∧ R (Itl X.K a) H1) ∨ (∃ a xs, x = .ref a ∧ SqT X.K H1 a xs ∧ R (Itt X.K a) H1) ∨ ∃ z, x = .str z ∧ R (Its z) H1 := by
    refine ⟨ρ, ls, hp, l, hr, ?_⟩
    unfold iSeq at o
    cases e : f ls hp with
    | ok w h1 =>
      rw [e] at o
      intro ρ' H' v ex r x
      cases x with
      | @ref n a q =>
        simp only at o
        split at o
        · rename_i xs e2
          split at e2
          · rename_i us e3
            cases e2
            obtain ⟨ys, z1, z2⟩ := lst_of r e3 q
            exact .inl ⟨a, ys, rfl, z1, o ρ' H' _ ex r (src_list q)⟩
          · cases e2
        · rename_i e2; split at e2 <;> cases e2
        · exact o.elim
      | @tup xs ys a q rr => exact .inr (.inl ⟨a, ys, rfl, q, o ρ' H' _ ex r (src_tup' q rr)⟩)
      | @fl xs ys a q rr => exact .inl ⟨a, ys, rfl, q.sq, o ρ' H' _ ex r (src_fl q rr)⟩
      | str z => exact .inr (.inr ⟨z, rfl, o ρ' H' _ ex r src_str⟩)
      | _ => exact o.elim
    | exc c fs h1 => rw [e] at o; exact o
    | bad => rw [e] at o; exact o.elim
  exact thn (ha.run pins s σ H _ I h2) fun v s1 ⟨x, H1, I1, r1, q1⟩ => iter_vals I1 r1 q1
/-- range(n), range(a, b) -/
def smallR (i : Int) : Bool := decide (-(2 ^ 62) ≤ i) && decide (i < 2 ^ 62)
def rangeW (lo hi : Int) : List W := (List.range (hi - lo).toNat).map fun i => W.int (lo + (i : Nat))
def iRange1 (gs : SEs) : SI := fun ls h => match gs ls h with
  | .ok [.int j] h1 => if smallR j = true then .ok (rangeW 0 j) [] h1 else .bad
  | .ok _ _ => .bad
  | .exc c fs h1 => .exc c fs h1
  | .bad => .bad
def iRange2 (gs : SEs) : SI := fun ls h => match gs ls h with
  | .ok [.int i, .int j] h1 => if (smallR i && smallR j) = true then .ok (rangeW i j) [] h1 else .bad
  | .ok _ _ => .bad
  | .exc c fs h1 => .exc c fs h1
  | .bad => .bad
theorem LA.in_ {K : PySem.W.Frag} {σ : St} {H : Hp} {ρ : List Addr} {ls : Ls} {h : Heap} {Q : List V → Hp → Prop} (l : LR K ρ H ls σ) (hr : HR K N ρ h H) (o : Outs K N ρ H (gs ls h) Q fun c d H' => Wx c d σ H') : LA K N Wx gs σ H Q := ⟨ρ, ls, h, l, hr, o⟩
theorem i_range1 (hg : Gl X "range") (hm : X.mg "range" = none) (ha : PA X [a] (LA X.K N Wx gs)) (hs : starEach [a] X.env = [(false, eval a X.env)] := by rfl) : PI X tg (.Call (.Name "range" p) [a] [] pos) (LI X.K N Wx (iRange1 gs)) := by
  refine PI.imp (pi_range1 hg hm ha hs) fun σ H R h => ?_
  obtain ⟨ρ, ls, hp, l, hr, o⟩ := h
  refine ⟨ρ, ls, hp, l, hr, ?_⟩
  unfold iRange1 at o
  cases e : gs ls hp with
  | ok ws h1 =>
    rw [e] at o
    intro ρ' H' vs ex r x
    cases x with
    | nil => exact o.elim
    | cons p x => cases x with
      | nil => cases p with
        | int j =>
          simp only at o
          split at o
          · rename_i xs g h2 e2
            split at e2
            · rename_i z
              cases e2
              simp only [smallR, Bool.and_eq_true, decide_eq_true_eq] at z
              refine ⟨j, rfl, z.1, z.2, ?_⟩
              have := o ρ' H' (Itr 0 (j - 0).toNat) ex r src_range
              simpa using this
            · cases e2
          · rename_i e2; split at e2 <;> cases e2
          · exact o.elim
        | _ => exact o.elim
      | cons => cases p <;> exact o.elim
  | exc c fs h1 => rw [e] at o; exact o
  | bad => rw [e] at o; exact o.elim
theorem i_range2 (hg : Gl X "range") (hm : X.mg "range" = none) (ha : PA X [a, b] (LA X.K N Wx gs)) (hs : starEach [a, b] X.env = [(false, eval a X.env), (false, eval b X.env)] := by rfl) (hs2 : starEach [b] X.env = [(false, eval b X.env)] := by rfl) :
    PI X tg (.Call (.Name "range" p) [a, b] [] pos) (LI X.K N Wx (iRange2 gs)) := by
  refine PI.imp (pi_range2 hg hm ha hs hs2) fun σ H R h => ?_
  obtain ⟨ρ, ls, hp, l, hr, o⟩ := h
  refine ⟨ρ, ls, hp, l, hr, ?_⟩
  unfold iRange2 at o
  cases e : gs ls hp with
  | ok ws h1 =>
    rw [e] at o
    intro ρ' H' vs ex r x
    cases x with
    | nil => exact o.elim
    | cons p x => cases x with
      | nil => cases p <;> exact o.elim
      | cons p' x => cases x with
        | nil => cases p with
          | int i => cases p' with
            | int j =>
              simp only at o
              split at o
              · rename_i xs g h2 e2
                split at e2
                · rename_i z
                  cases e2
                  simp only [smallR, Bool.and_eq_true, decide_eq_true_eq] at z
                  exact ⟨i, j, rfl, ⟨z.1.1, z.1.2, z.2.1, z.2.2⟩, o ρ' H' (Itr i (j - i).toNat) ex r src_range⟩
                · cases e2
              · rename_i e2; split at e2 <;> cases e2
              · exact o.elim
            | _ => exact o.elim
          | _ => exact o.elim
        | cons => cases p <;> first | exact o.elim | (cases p' <;> exact o.elim)
  | exc c fs h1 => rw [e] at o; exact o
  | bad => rw [e] at o; exact o.elim
/-- enumerate(list) -/
def iEnumW (gs : SEs) : SI := fun ls h => match gs ls h with
  | .ok [.ref n] h1 => match lstAt h1 n with
    | some xs => .ok (enumFrom 0 xs) [(n, xs)] h1
    | none => .bad
  | .ok [.fl xs] h1 => .ok (enumFrom 0 xs) [] h1
  | .ok _ _ => .bad
  | .exc c fs h1 => .exc c fs h1
  | .bad => .bad
theorem i_enum {tpos : Pos} {elts : List PySem.Expr} {kk : Nat} (hg : Gl X "enumerate") (hm : X.mg "enumerate" = none) (ha : PA X [a] (LA X.K N Wx gs)) (hs : starEach [a] X.env = [(false, eval a X.env)] := by rfl) :
    PI X (.Tuple elts kk tpos) (.Call (.Name "enumerate" p) [a] [] pos) (LI X.K N Wx (iEnumW gs)) := by
  refine PI.imp (pi_enum hg hm ha hs) fun σ H R h => ?_
  obtain ⟨ρ, ls, hp, l, hr, o⟩ := h
  refine ⟨ρ, ls, hp, l, hr, ?_⟩
  unfold iEnumW at o
  cases e : gs ls hp with
  | ok ws h1 =>
    rw [e] at o
    intro ρ' H' vs ex r x
    cases x with
    | nil => exact o.elim
    | cons p x => cases x with
      | nil => cases p with
        | @ref n a q =>
          simp only at o
          split at o
          · rename_i xs g h2 e2
            split at e2
            · rename_i us e3
              cases e2
              obtain ⟨ys, z1, z2⟩ := lst_of r e3 q
              exact ⟨a, ys, rfl, z1, o ρ' H' _ ex r (src_enum q)⟩
            · cases e2
          · rename_i e2; split at e2 <;> cases e2
          · exact o.elim
        | @fl xs ys a q rr => exact ⟨a, ys, rfl, q.sq, o ρ' H' _ ex r (src_enumF q rr)⟩
        | _ => exact o.elim
      | cons => cases p <;> exact o.elim
  | exc c fs h1 => rw [e] at o; exact o
  | bad => rw [e] at o; exact o.elim
end
end Ev
set_option maxRecDepth 100000
/-! EvComp: targets that are names, for, comprehensions. -/
namespace Ev
open PySem L2

/-! ### targets: names, tuples of names -/
inductive Tg where
  | one (i : Nat) | two (i j : Nat) | three (i j k : Nat)
def bindTg : Tg → W → Ls → Option Ls
  | .one i, w, ls => some (ls.set i (some w))
  | .two i j, .tup [x, y], ls => some ((ls.set i (some x)).set j (some y))
  | .three i j k, .tup [x, y, z], ls => some (((ls.set i (some x)).set j (some y)).set k (some z))
  | _, _, _ => none
def tgOf (K : PySem.W.Frag) : Tg → TG
  | .one i => gName i
  | .two i j => gTup K 2 (gCons (gName i) (gCons (gName j) gNil))
  | .three i j k => gTup K 3 (gCons (gName i) (gCons (gName j) (gCons (gName k) gNil)))
def Tg.has : Tg → Nat → Prop
  | .one i, n => n = i
  | .two i j, n => n = i ∨ n = j
  | .three i j k, n => n = i ∨ n = j ∨ n = k
theorem wipe_set {σ : St} {i : Nat} {a : Option V} : ∀ {vs : List Nat}, i ∈ vs → wipe (σ.set i a) vs = wipe σ vs
  | [], h => by simp at h
  | v :: vs, h => by
    unfold wipe
    by_cases hv : i ∈ vs
    · rw [wipe_set hv]
    · have e : i = v := by
        rcases List.mem_cons.mp h with e | e
        · exact e
        · exact (hv e).elim
      subst e
      have aux : ∀ {ws : List Nat}, i ∉ ws → wipe (σ.set i a) ws = (wipe σ ws).set i a := by
        intro ws
        induction ws with
        | nil => intro _; rfl
        | cons w ws ih =>
          intro hn
          simp only [List.mem_cons, not_or] at hn
          unfold wipe
          rw [ih hn.2, List.set_comm _ _ hn.1]
      rw [aux hv, List.set_set]
theorem tg_in {K : PySem.W.Frag} {ρ : List Addr} {H : Hp} {t : Tg} {w : W} {v : V} {ls ls' : Ls} {σ : St} {Q : St → Hp → Prop} (l : LR K ρ H ls σ) (x : VR K ρ H w v) (e : bindTg t w ls = some ls')
    (q : ∀ σ', LR K ρ H ls' σ' → (∀ vs : List Nat, (∀ i, t.has i → i ∈ vs) → wipe σ' vs = wipe σ vs) → Q σ' H) : tgOf K t v σ H Q := by
  cases t with
  | one i =>
    simp only [bindTg, Option.some.injEq] at e
    subst e
    exact q _ (l.set i x) fun vs h => wipe_set (h i rfl)
  | two i j =>
    cases x with
    | tup s r => cases r with
      | nil => cases e
      | cons r1 r => cases r with
        | nil => cases e
        | cons r2 r => cases r with
          | nil =>
            simp only [bindTg, Option.some.injEq] at e
            subst e
            refine ⟨_, _, rfl, s, rfl, _, _, rfl, _, _, rfl, rfl, ?_⟩
            exact q _ ((l.set i r1).set j r2) fun vs h => by rw [wipe_set (h j (.inr rfl)), wipe_set (h i (.inl rfl))]
          | cons => cases e
    | _ => cases e
  | three i j k =>
    cases x with
    | tup s r => cases r with
      | nil => cases e
      | cons r1 r => cases r with
        | nil => cases e
        | cons r2 r => cases r with
          | nil => cases e
          | cons r3 r => cases r with
            | nil =>
              simp only [bindTg, Option.some.injEq] at e
              subst e
              refine ⟨_, _, rfl, s, rfl, _, _, rfl, _, _, rfl, _, _, rfl, rfl, ?_⟩
              exact q _ (((l.set i r1).set j r2).set k r3) fun vs h => by rw [wipe_set (h k (.inr (.inr rfl))), wipe_set (h j (.inr (.inl rfl))), wipe_set (h i (.inl rfl))]
            | cons => cases e
    | _ => cases e

/-! ### for -/
def forL (t : Tg) (body : SS) (g : List (Nat × List W)) : List W → SS
  | [], ls, h => if gOk g h = true then .nx ls h else .bad
  | x :: xs, ls, h => if gOk g h = true then match bindTg t x ls with
    | some ls1 => match body ls1 h with
      | .nx ls2 h2 => forL t body g xs ls2 h2
      | .ct ls2 h2 => forL t body g xs ls2 h2
      | .bk ls2 h2 => .nx ls2 h2
      | r => r
    | none => .bad
    else .bad
def sFor (t : Tg) (src : SI) (body : SS) : SS := fun ls h => match src ls h with
  | .ok xs g h1 => forL t body g xs ls h1
  | .exc c fs h1 => .exc c fs ls h1
  | .bad => .bad
section
variable {X : Cx} {N : Nm} {Wx : WX} {pos : Pos} {tg iter : PySem.Expr} {body : List PySem.Stmt} {t : Tg} {src : SI} {s : SS}
theorem s_for (hp : PassesOwn (model X.prog X.w) X.A X.env X.xe) (hc : X.calm = true) (hi : PI X tg iter (LI X.K N Wx src)) (hg : PG X tg (tgOf X.K t)) (hb : PSs X body (LS X.K N Wx s))
    (hs : ∀ x, foldedSetIterable iter X.env x = pure x := by intro _; rfl) : PS X (.For tg iter body [] pos) (LS X.K N Wx (sFor t src s)) := by
  refine PS.imp (ps_for hp hc hi hg hb hs) fun D σ H h => ?_
  obtain ⟨ρ, ls, hp, l, hr, o⟩ := h
  refine ⟨ρ, ls, hp, l, hr, ?_⟩
  unfold sFor at o
  cases e : src ls hp with
  | ok xs g h1 =>
    rw [e] at o
    simp only at o
    intro ρ1 H1 J ex1 r1 S
    refine ⟨fun i m σ H => m = xs.length - i ∧ i ≤ xs.length ∧ ∃ ρ' ls h, Ex ρ1 ρ' H1 H ∧ LR X.K ρ' H ls σ ∧ HR X.K N ρ' h H ∧ OutS X.K N ρ' H (forL t s g (xs.drop i) ls h) D Wx,
      ⟨xs.length, by simp, Nat.zero_le _, ρ1, ls, h1, Ex.refl _ _, l.ex ex1, r1, by rw [List.drop_zero]; exact OutS.ex ex1 o⟩, ?_⟩
    rintro i m σ2 H2 ⟨rfl, hi, ρ2, ls2, h2, ex2, l2, r2, o2⟩
    by_cases hlt : i < xs.length
    · rw [List.drop_eq_getElem_cons hlt, forL] at o2
      split at o2
      · rename_i ok
        refine .inr ⟨S.go i ρ2 h2 H2 ex2 r2 ok hlt, fun σ' H' => i + 1 ≤ xs.length ∧ ∃ ρ' ls h, Ex ρ1 ρ' H1 H' ∧ LR X.K ρ' H' ls σ' ∧ HR X.K N ρ' h H' ∧ OutS X.K N ρ' H' (forL t s g (xs.drop (i + 1)) ls h) D Wx,
          fun σ' H' z => ⟨xs.length - (i + 1), by omega, rfl, z.1, z.2⟩, fun x H' y => ?_⟩
        obtain ⟨w, ew, rw_, r3, ex3⟩ := S.yld i ρ2 h2 H2 x H' ex2 r2 ok hlt y
        have : xs[i] = w := by rw [List.getElem?_eq_getElem hlt] at ew; exact Option.some.inj ew
        rw [this] at o2
        split at o2
        · rename_i ls3 eb
          refine tg_in (l2.ex ex3) rw_ eb fun σ3 l3 _ => ?_
          refine ⟨ρ2, ls3, h2, l3, r3, ?_⟩
          have o3 := OutS.ex ex3 o2
          have ex13 := ex2.trans ex3
          cases es : s ls3 h2 with
          | nx ls4 h4 => rw [es] at o3; exact fun ρ4 σ4 H4 ex4 l4 r4 => ⟨hlt, ρ4, ls4, h4, ex13.trans ex4, l4, r4, OutS.ex ex4 o3⟩
          | ct ls4 h4 => rw [es] at o3; exact fun ρ4 σ4 H4 ex4 l4 r4 => ⟨hlt, ρ4, ls4, h4, ex13.trans ex4, l4, r4, OutS.ex ex4 o3⟩
          | bk ls4 h4 => rw [es] at o3; exact o3
          | rt w h4 => rw [es] at o3; exact o3
          | exc c fs ls4 h4 => rw [es] at o3; exact o3
          | bad => rw [es] at o3; exact o3.elim
        · exact o2.elim
      · exact o2.elim
    · have he : i = xs.length := by omega
      subst he
      rw [List.drop_length, forL] at o2
      split at o2
      · rename_i ok
        exact .inl ⟨S.stop ρ2 h2 H2 ex2 r2 ok, o2 ρ2 σ2 H2 (Ex.refl _ _) l2 r2⟩
      · exact o2.elim
  | exc c fs h1 => rw [e] at o; exact fun ρ' H' d ex r z => o ρ' σ H' d ex (l.ex ex) r z
  | bad => rw [e] at o; exact o.elim
end

/-! ### comprehensions -/
def wipeL (ls : Ls) : List Nat → Ls
  | [] => ls
  | v :: vs => (wipeL ls vs).set v none
theorem LR.wipe {K : PySem.W.Frag} {ρ : List Addr} {H : Hp} {ls : Ls} {σ : St} (l : LR K ρ H ls σ) : ∀ vs : List Nat, LR K ρ H (wipeL ls vs) (L2.wipe σ vs)
  | [] => l
  | v :: vs => (LR.wipe l vs).unset v
/-- no exception leaves -/
abbrev W0 : WX := fun _ _ _ _ => False
def bYes : SB := fun _ h => .ok true h
/-- the items of the new list -/
def compL (t : Tg) (g : List (Nat × List W)) (cond : SB) (elt : SE) (ls : Ls) : List W → Heap → Rs
  | [], h => if gOk g h = true then .ok [] h else .bad
  | x :: xs, h => if gOk g h = true then match bindTg t x ls with
    | some ls1 => match cond ls1 h with
      | .ok true h2 => match elt ls1 h2 with
        | .ok y h3 => match compL t g cond elt ls xs h3 with
          | .ok ys h4 => .ok (y :: ys) h4
          | r => r
        | _ => .bad
      | .ok false h2 => compL t g cond elt ls xs h2
      | _ => .bad
    | none => .bad
    else .bad
/-- [elt for t in src if cond]; vs: the block's own names -/
def eComp (vs : List Nat) (t : Tg) (src : SI) (cond : SB) (elt : SE) : SE := fun ls h => match src ls h with
  | .ok xs g h1 => if xs.length ≤ sizeLine then match compL t g cond elt (wipeL ls vs) xs h1 with
    | .ok ys h2 => .ok (.ref h2.nx) (h2.new (.lst ys))
    | _ => .bad
    else .bad
  | .exc c fs h1 => .exc c fs h1
  | .bad => .bad
theorem upd_self {H : Hp} {p : Addr} {O : HO} (h : H p = some O) : upd H p O = H := by
  funext b
  unfold upd
  split
  · rename_i e; rw [e, h]
  · rfl
theorem Ex.grow {ρ ρ' : List Addr} {H H' : Hp} {p : Addr} (hn : H p = none) (ex : Ex ρ ρ' H H') : Ex ρ (ρ' ++ [p]) H H' :=
  ⟨ex.pre.trans (List.prefix_append _ _), ex.he, fun a U h nx n => by
    obtain ⟨h1, n1⟩ := ex.fr a U h nx n
    refine ⟨h1, fun m => ?_⟩
    rcases List.mem_append.mp m with m | m
    · exact n1 m
    · simp at m; exact ne_of_none h hn m⟩
/-- a thing beside the heap that was not there at the start -/
theorem Ex.side {ρ ρ' : List Addr} {H H' : Hp} {p : Addr} {O : HO} (hn : H p = none) (ex : Ex ρ ρ' H H') (he : HE H' (upd H' p O)) : Ex ρ ρ' H (upd H' p O) :=
  ⟨ex.pre, ex.he.trans he, fun a U h nx n => by
    obtain ⟨h1, n1⟩ := ex.fr a U h nx n
    exact ⟨by rw [upd_ne (ne_of_none h hn)]; exact h1, n1⟩⟩
theorem compL_len {t : Tg} {g : List (Nat × List W)} {cond : SB} {elt : SE} {ls : Ls} : ∀ {xs : List W} {h h' : Heap} {ys : List W}, compL t g cond elt ls xs h = .ok ys h' → ys.length ≤ xs.length
  | [], h, h', ys, e => by
    rw [compL] at e
    split at e
    · cases e; exact Nat.le_refl _
    · cases e
  | x :: xs, h, h', ys, e => by
    rw [compL] at e
    split at e
    · split at e
      · split at e
        · split at e
          · split at e
            · rename_i q
              cases e
              simpa using compL_len q
            · rename_i r q; exact absurd e (q _ _)
          · cases e
        · exact Nat.le_succ_of_le (compL_len e)
        · cases e
      · cases e
    · cases e
section
variable {X : Cx} {N : Nm} {Wx : WX} {pos : Pos} {elt tg iter : PySem.Expr} {ifs : List PySem.Expr} {t : Tg} {src : SI} {cond : SB} {f : SE} {scope : Scope} {own : List (Str × Nat)}
theorem PTs.imp {X : Cx} {e : List PySem.Expr} {t t' : TT} (h : PTs X e t) (i : ∀ σ H Q, t' σ H Q → t σ H Q) : PTs X e t' := ⟨fun pins s σ H Q I q => h.run pins s σ H Q I (i σ H Q q)⟩
theorem c_nil : PTs X [] (LT X.K N Wx bYes) := PTs.imp pts_nil fun σ H Q ⟨ρ, ls, h, l, hr, o⟩ => o ρ H (Ex.refl _ _) hr
theorem c_one {c : PySem.Expr} (h : PT X c (LT X.K N Wx cond)) : PTs X [c] (LT X.K N Wx cond) := pts_one h
theorem lc_in {K : PySem.W.Frag} {σ : St} {H : Hp} {Q : VK} (hown : ∀ i, t.has i → i ∈ own.map (·.2)) (h : LE K N Wx (eComp (own.map (·.2)) t src cond f) σ H Q) :
    tLc (LI K N Wx src) (tgOf K t) (LT K N W0 cond) (LE K N W0 f) (own.map (·.2)) σ H Q := by
  obtain ⟨ρ, ls, hp, l, hr, o⟩ := h
  refine ⟨ρ, ls, hp, l, hr, ?_⟩
  unfold eComp at o
  cases e : src ls hp with
  | ok xs g h1 =>
    rw [e] at o
    simp only at o
    intro ρ1 H1 J ex1 r1 S D hD
    split at o
    · rename_i hsz
      have nD : D ∉ ρ1 := fun m => r1.fresh hD D m rfl
      -- what is still to be made, behind acc
      generalize hC : compL t g cond f (wipeL ls (own.map (·.2))) = C at o
      have Fin : ∃ F : List W → Rs → Prop, (∀ acc r, F acc r ↔ ∃ ys h2, r = .ok ys h2 ∧ acc.length + ys.length ≤ sizeLine ∧ Out K N ρ1 H1 (.ok (.ref h2.nx) (h2.new (.lst (acc ++ ys)))) Q (fun c d H' => Wx c d σ H')) := ⟨_, fun _ _ => Iff.rfl⟩
      obtain ⟨Fin, hF⟩ := Fin
      have start : Fin [] (C xs h1) := by
        rw [hF]
        cases ec : C xs h1 with
        | ok ys h2 =>
          rw [ec] at o
          refine ⟨ys, h2, rfl, ?_, by rw [List.nil_append]; exact Out.ex ex1 o⟩
          rw [← hC] at ec
          have := compL_len ec
          simp only [List.length_nil]
          omega
        | exc => rw [ec] at o; exact o.elim
        | bad => rw [ec] at o; exact o.elim
      refine ⟨fun i m H => m = xs.length - i ∧ i ≤ xs.length ∧ ∃ ρ' h acc av, Ex ρ1 ρ' H1 H ∧ HR K N ρ' h H ∧ VRs K ρ' H acc av ∧ H D = some (.lst av) ∧ D ∉ ρ' ∧ Fin acc (C (xs.drop i) h),
        ⟨xs.length, by simp, Nat.zero_le _, ρ1, h1, [], [], Ex.other hD, r1.other hD, .nil, upd_same, nD, by rw [List.drop_zero]; exact start⟩, ?_⟩
      rintro i m H2 ⟨rfl, hi, ρ2, h2, acc, av, ex2, r2, ra, eD, nD2, fin⟩
      by_cases hlt : i < xs.length
      · have hstep : C (xs[i] :: xs.drop (i + 1)) h2 = if gOk g h2 = true then match bindTg t xs[i] (wipeL ls (own.map (·.2))) with
            | some ls1 => match cond ls1 h2 with
              | .ok true h2 => match f ls1 h2 with
                | .ok y h3 => match C (xs.drop (i + 1)) h3 with
                  | .ok ys h4 => .ok (y :: ys) h4
                  | r => r
                | _ => .bad
              | .ok false h2 => C (xs.drop (i + 1)) h2
              | _ => .bad
            | none => .bad
            else .bad := by rw [← hC, compL]
        rw [List.drop_eq_getElem_cons hlt, hstep] at fin
        have nobad : ∀ acc, ¬ Fin acc .bad := fun acc z => by obtain ⟨ys, h2, q, _⟩ := (hF _ _).mp z; cases q
        have noexc : ∀ acc c fs h, ¬ Fin acc (.exc c fs h) := fun acc c fs h z => by obtain ⟨ys, h2, q, _⟩ := (hF _ _).mp z; cases q
        split at fin
        · rename_i ok
          refine .inr ⟨S.go i ρ2 h2 H2 ex2 r2 ok hlt, fun H' => i + 1 ≤ xs.length ∧ ∃ ρ' h acc av, Ex ρ1 ρ' H1 H' ∧ HR K N ρ' h H' ∧ VRs K ρ' H' acc av ∧ H' D = some (.lst av) ∧ D ∉ ρ' ∧ Fin acc (C (xs.drop (i + 1)) h),
            fun H' z => ⟨xs.length - (i + 1), by omega, rfl, z.1, z.2⟩, fun x H3 y => ?_⟩
          obtain ⟨w, ew, rw_, r3, ex3⟩ := S.yld i ρ2 h2 H2 x H3 ex2 r2 ok hlt y
          have : xs[i] = w := by rw [List.getElem?_eq_getElem hlt] at ew; exact Option.some.inj ew
          rw [this] at fin
          have l0 : LR K ρ2 H3 (wipeL ls (own.map (·.2))) (L2.wipe σ (own.map (·.2))) := ((l.ex ex1).ex (ex2.trans ex3)).wipe _
          split at fin
          · rename_i ls3 eb
            refine tg_in l0 rw_ eb fun σ3 l3 hw => ?_
            have hw' := hw (own.map (·.2)) hown
            have hw2 : L2.wipe (L2.wipe σ (own.map (·.2))) (own.map (·.2)) = L2.wipe σ (own.map (·.2)) := by
              have : ∀ (ws : List Nat), (∀ i ∈ ws, i ∈ own.map (·.2)) → L2.wipe (L2.wipe σ ws) (own.map (·.2)) = L2.wipe σ (own.map (·.2)) := by
                intro ws
                induction ws with
                | nil => intro _; rfl
                | cons v ws ih =>
                  intro hv
                  show L2.wipe ((L2.wipe σ ws).set v none) _ = _
                  rw [wipe_set (hv v (by simp))]
                  exact ih fun i hi => hv i (List.mem_cons_of_mem _ hi)
              exact this _ fun _ h => h
            refine ⟨hw'.trans hw2, ρ2, ls3, h2, l3, r3, ?_⟩
            obtain ⟨eD3, nD3⟩ := ex3.fr D _ eD (fun _ z => nomatch z) nD2
            cases ec : cond ls3 h2 with
            | ok b h4 =>
              rw [ec] at fin
              intro ρ4 H4 ex4 r4
              obtain ⟨eD4, nD4⟩ := ex4.fr D _ eD3 (fun _ z => nomatch z) nD3
              cases b with
              | true =>
                rw [if_pos rfl]
                simp only at fin
                refine ⟨ρ4, ls3, h4, l3.ex ex4, r4, ?_⟩
                cases ef : f ls3 h4 with
                | ok y h5 =>
                  rw [ef] at fin
                  simp only at fin
                  intro ρ5 H5 yv ex5 r5 ry
                  obtain ⟨eD5, nD5⟩ := ex5.fr D _ eD4 (fun _ z => nomatch z) nD4
                  have exa := (ex3.trans ex4).trans ex5
                  have ra5 := ra.ex exa
                  cases er : C (xs.drop (i + 1)) h5 with
                  | ok ys h6 =>
                    rw [er] at fin
                    obtain ⟨ys', h6', q, f1, f2⟩ := (hF _ _).mp fin
                    cases q
                    have he : HE H5 (upd H5 D (.lst (av ++ [yv]))) := HE.upd eD5 (fun _ z => nomatch z) (fun _ _ z => nomatch z)
                    have hl : acc.length = av.length := ra.length
                    refine ⟨av, eD5, by simp only [List.length_cons] at f1; omega, hlt, ρ5, h5, acc ++ [y], av ++ [yv], Ex.side hD (ex2.trans exa) he, r5.he he fun a m => upd_ne (fun z => nD5 (z ▸ m)), (ra5.append (.cons ry .nil)).mono List.prefix_rfl he, upd_same, nD5, ?_⟩
                    rw [er, hF]
                    exact ⟨ys, h6, rfl, by simp only [List.length_append, List.length_cons, List.length_nil] at f1 ⊢; omega, by rw [List.append_assoc]; exact f2⟩
                  | exc => rw [er] at fin; exact (noexc _ _ _ _ fin).elim
                  | bad => rw [er] at fin; exact (nobad _ fin).elim
                | exc => rw [ef] at fin; exact (nobad _ fin).elim
                | bad => rw [ef] at fin; exact (nobad _ fin).elim
              | false =>
                rw [if_neg Bool.false_ne_true]
                exact ⟨hlt, ρ4, h4, acc, av, (ex2.trans ex3).trans ex4, r4, ra.ex (ex3.trans ex4), eD4, nD4, fin⟩
            | exc => rw [ec] at fin; exact (nobad _ fin).elim
            | bad => rw [ec] at fin; exact (nobad _ fin).elim
          · exact (nobad _ fin).elim
        · exact (nobad _ fin).elim
      · have he : i = xs.length := by omega
        subst he
        have hstep : C [] h2 = if gOk g h2 = true then .ok [] h2 else .bad := by rw [← hC, compL]
        rw [List.drop_length, hstep] at fin
        obtain ⟨ys, h3, q, f1, f2⟩ := (hF _ _).mp fin
        split at q
        · rename_i ok
          cases q
          refine .inl ⟨S.stop ρ2 h2 H2 ex2 r2 ok, ?_⟩
          rw [List.append_nil] at f2
          have e2 : upd H2 D (.lst av) = H2 := upd_self eD
          have hr3 : HR K N (ρ2 ++ [D]) (h2.new (.lst acc)) (upd H2 D (.lst av)) := r2.adopt nD2 (by rw [e2]; exact HE.refl _) (by rw [e2]; exact .lst (ra.mono (List.prefix_append _ _) (HE.refl _)))
          rw [e2] at hr3
          exact f2 (ρ2 ++ [D]) H2 _ (Ex.grow hD ex2) hr3 (.ref (r2.at_new D))
        · cases q
    · exact o.elim
  | exc c fs h1 => rw [e] at o; exact fun ρ' H' d ex r z => o ρ' H' d ex r z
  | bad => rw [e] at o; exact o.elim
end
end Ev
set_option maxRecDepth 100000
/-! EvCall: comprehensions as values, fields, calls, defs. -/
namespace Ev
open PySem L2

section
variable {X : Cx} {N : Nm} {Wx : WX} {pos spos py : Pos} {elt tg iter : PySem.Expr} {ifs : List PySem.Expr} {t : Tg} {src : SI} {cond : SB} {f : SE} {scope : Scope} {own : List (Str × Nat)}
theorem tg_one {i : Nat} {x : Str} (hN : X.N.Nodup) (hi : X.N[i]? = some x) (hx : Loc X.env.scope x) (hf : X.fn x = true ∨ X.env.scope.names.lookup x = some .local := by first | exact .inl rfl | exact .inr rfl | assumption) : PG X (.Name x pos) (tgOf X.K (.one i)) := pg_name hN hi hx hf
theorem tg_two {i j k : Nat} {x y : Str} {px py : Pos} (hc : X.calm = true) (h1 : PG X (.Name x px) (gName i)) (h2 : PG X (.Name y py) (gName j))
    (ha : (assignEach [.Name x px, .Name y py] X.env).map (·.2) = assign (.Name x px) X.env :: (assignEach [.Name y py] X.env).map (·.2) := by rfl) (hb : (assignEach [.Name y py] X.env).map (·.2) = assign (.Name y py) X.env :: (assignEach [] X.env).map (·.2) := by rfl)
    (hn : (assignEach [.Name x px, .Name y py] X.env).length = 2 := by rfl) (hst : (assignEach [.Name x px, .Name y py] X.env).findIdx? (·.1) = none := by rfl) : PG X (.Tuple [.Name x px, .Name y py] k pos) (tgOf X.K (.two i j)) :=
  pg_tup hc (pgs_cons h1 (pgs_cons h2 pgs_nil hb) ha) hn hst
/-- [elt for .. in .. if ..] -/
theorem r_lc (hc : X.calm = true) (hN : X.N.Nodup) (hi : PI X tg iter (LI X.K N Wx src)) (ok : BlkOk X.N X.env.scope scope own) (hown : ∀ i, t.has i → i ∈ own.map (·.2))
    (hg : ∀ (s : Shared) (H : Hp) (C : Addr) (cl : List (Str × Addr)) (fp : List Addr), PG (X.blk s H scope (compEnvC scope cl C X.env) fp) tg (tgOf X.K t))
    (ht : ∀ (s : Shared) (H : Hp) (C : Addr) (cl : List (Str × Addr)) (fp : List Addr), PTs (X.blk s H scope (compEnvC scope cl C X.env) fp) ifs (LT X.K N W0 cond))
    (he : ∀ (s : Shared) (H : Hp) (C : Addr) (cl : List (Str × Addr)) (fp : List Addr), PE (X.blk s H scope (compEnvC scope cl C X.env) fp) elt (LE X.K N W0 f))
    (hs : ∀ x, foldedSetIterable iter X.env x = pure x := by intro _; rfl) : PE X (.ListComp elt [⟨tg, iter, ifs, 0⟩] scope pos) (LE X.K N Wx (eComp (own.map (·.2)) t src cond f)) :=
  PE.imp (pe_lc hc hN hi ok hg ht he hs) fun σ H Q h => lc_in hown h
/-- y = [elt for .. in .. if ..], stored at once -/
theorem s_setLc {i : Nat} {y : Str} (hc : X.calm = true) (hN : X.N.Nodup) (hy : X.N[i]? = some y) (hyl : X.env.scope.names.lookup y = some .local)
    (hsw : swapsWith (.ListComp elt [⟨tg, iter, ifs, 0⟩] scope pos) (some (.Name y py)) spos.line X.env = pure true) (hi : PI X tg iter (LI X.K N Wx src)) (ok : BlkOk X.N X.env.scope scope own) (hown : ∀ i, t.has i → i ∈ own.map (·.2))
    (hg : ∀ (s : Shared) (H : Hp) (C : Addr) (cl : List (Str × Addr)) (fp : List Addr), PG (X.blk s H scope (compEnvC scope cl C X.env) fp) tg (tgOf X.K t))
    (ht : ∀ (s : Shared) (H : Hp) (C : Addr) (cl : List (Str × Addr)) (fp : List Addr), PTs (X.blk s H scope (compEnvC scope cl C X.env) fp) ifs (LT X.K N W0 cond))
    (he : ∀ (s : Shared) (H : Hp) (C : Addr) (cl : List (Str × Addr)) (fp : List Addr), PE (X.blk s H scope (compEnvC scope cl C X.env) fp) elt (LE X.K N W0 f))
    (hs : ∀ x, foldedSetIterable iter X.env x = pure x := by intro _; rfl) : PS X (.Assign [.Name y py] (.ListComp elt [⟨tg, iter, ifs, 0⟩] scope pos) spos) (LS X.K N Wx (sAsg (eComp (own.map (·.2)) t src cond f) (gNm i))) := by
  refine PS.imp (ps_setLc hc hN hy hyl hsw hi ok hg ht he hs) fun D σ H h => ?_
  obtain ⟨ρ, ls, hp, l, hr, o⟩ := asg_in (gnm_ok i) h
  exact lc_in hown ⟨ρ, ls, hp, l, hr, o.mono (fun v H' z => gnm_in z) fun _ _ _ z => z⟩
end

/-! ### fields -/
def fGet (fs : List (Nat × W)) (i : Nat) : Option W := (fs.find? fun p => p.1 == i).map (·.2)
def fPut (i : Nat) (w : W) : List (Nat × W) → List (Nat × W)
  | [] => [(i, w)]
  | (j, x) :: r => if j = i then (j, w) :: r else (j, x) :: fPut i w r
section
variable {K : PySem.W.Frag} {N : Nm} {ρ : List Addr} {H : Hp}
theorem fGet_of : ∀ {fs : List (Nat × W)} {fs' : List (Str × V)}, fs'.map (·.1) = fs.map (fun f => N.an f.1) → VRs K ρ H (fs.map (·.2)) (fs'.map (·.2)) → ∀ {i : Nat} {w : W}, fGet fs i = some w → ∃ v, fs'.lookup (N.an i) = some v ∧ VR K ρ H w v
  | [], _, _, _, i, w, e => by cases e
  | (a, x) :: r, [], e1, _, i, w, e => by cases e1
  | (a, x) :: r, (b, y) :: r', e1, rr, i, w, e => by
    simp only [List.map_cons, List.cons.injEq] at e1
    obtain ⟨e0, e1⟩ := e1
    cases rr with
    | cons q rr =>
      by_cases hk : a = i
      · subst hk
        simp [fGet, List.find?_cons] at e
        subst e
        exact ⟨y, by rw [List.lookup_cons, e0]; simp, q⟩
      · have h1 : (N.an i == b) = false := by
          rw [e0]
          exact beq_eq_false_iff_ne.mpr fun z => hk (N.inj _ _ z).symm
        obtain ⟨v, z1, z2⟩ := fGet_of e1 rr (i := i) (w := w) (by simpa [fGet, List.find?_cons, hk] using e)
        exact ⟨v, by rw [List.lookup_cons, h1]; exact z1, z2⟩
theorem fGet_none : ∀ {fs : List (Nat × W)} {fs' : List (Str × V)}, fs'.map (·.1) = fs.map (fun f => N.an f.1) → ∀ {i : Nat}, fGet fs i = none → fs'.lookup (N.an i) = none
  | [], [], _, i, _ => rfl
  | [], _ :: _, e1, _, _ => by cases e1
  | (a, x) :: r, [], e1, i, e => by cases e1
  | (a, x) :: r, (b, y) :: r', e1, i, e => by
    simp only [List.map_cons, List.cons.injEq] at e1
    obtain ⟨e0, e1⟩ := e1
    by_cases hk : a = i
    · subst hk; simp [fGet, List.find?_cons] at e
    · have h1 : (N.an i == b) = false := by
        rw [e0]
        exact beq_eq_false_iff_ne.mpr fun z => hk (N.inj _ _ z).symm
      rw [List.lookup_cons, h1]
      exact fGet_none e1 (i := i) (by simpa [fGet, List.find?_cons, hk] using e)
theorem fPut_of {i : Nat} {w : W} {v : V} (q : VR K ρ H w v) : ∀ {fs : List (Nat × W)} {fs' : List (Str × V)}, fs'.map (·.1) = fs.map (fun f => N.an f.1) → VRs K ρ H (fs.map (·.2)) (fs'.map (·.2)) →
    (putF (N.an i) v fs').map (·.1) = (fPut i w fs).map (fun f => N.an f.1) ∧ VRs K ρ H ((fPut i w fs).map (·.2)) ((putF (N.an i) v fs').map (·.2))
  | [], [], _, _ => ⟨rfl, .cons q .nil⟩
  | [], _ :: _, e1, _ => by cases e1
  | (a, x) :: r, [], e1, _ => by cases e1
  | (a, x) :: r, (b, y) :: r', e1, rr => by
    simp only [List.map_cons, List.cons.injEq] at e1
    obtain ⟨e0, e1⟩ := e1
    cases rr with
    | cons q1 rr =>
      obtain ⟨i1, i2⟩ := fPut_of q e1 rr
      unfold fPut putF
      by_cases hk : a = i
      · subst hk
        rw [if_pos rfl, if_pos e0]
        exact ⟨by simp [e0, e1], .cons q rr⟩
      · rw [if_neg hk, if_neg (fun z => hk (N.inj _ _ (e0.symm.trans z)))]
        simp only [List.map_cons]
        exact ⟨by rw [i1, e0], .cons q1 i2⟩
theorem ins_of {h : Heap} {n c : Nat} {fs : List (Nat × W)} {a : Addr} (hr : HR K N ρ h H) (e : h.get n = some (.ins c fs)) (q : ρ[n]? = some a) :
    ∃ dx, ∃ fs' : List (Str × V), H a = some (.ins (N.ca c) dx fs') ∧ fs'.map (·.1) = fs.map (fun f => N.an f.1) ∧ VRs K ρ H (fs.map (·.2)) (fs'.map (·.2)) := by
  obtain ⟨O, h2, h3⟩ := hr.at e q
  cases h3 with | ins k r => exact ⟨_, _, h2, k, r⟩
theorem HR.setF {h : Heap} {n c : Nat} {a dx : Addr} {fs' gs' : List (Str × V)} {gs : List (Nat × W)} (r : HR K N ρ h H) (q : ρ[n]? = some a) (e : H a = some (.ins (N.ca c) dx fs')) (k : gs'.map (·.1) = gs.map (fun f => N.an f.1)) (x : VRs K ρ H (gs.map (·.2)) (gs'.map (·.2))) :
    HR K N ρ (h.put n (.ins c gs)) (upd H a (.ins (N.ca c) dx gs')) ∧ HE H (upd H a (.ins (N.ca c) dx gs')) := by
  have he : HE H (upd H a (.ins (N.ca c) dx gs')) := HE.upd e (fun _ z => nomatch z) (fun _ _ z => nomatch z)
  exact ⟨r.put q e (fun _ z => nomatch z) (fun _ _ z => nomatch z) (.ins k (x.mono List.prefix_rfl he)), he⟩
end
/-- what an attribute is in a class: a field, a property -/
inductive At where
  | none | fld | prop (G : List W → Heap → R)
/-- no exception comes out -/
def R.calm : R → R
  | .exc _ _ _ => .bad
  | r => r
/-- o.f -/
def eAttr (at_ : Nat → At) (i : Nat) (f : SE) : SE := eUn (fun x h => match x with
  | .ref n => match h.get n with
    | some (.ins c fs) => match at_ c with
      | .fld => match fGet fs i with
        | some w => .ok w h
        | none => .bad
      | .prop G => (G [.ref n] h).calm
      | .none => .bad
    | _ => .bad
  | _ => .bad) f
section
variable {X : Cx} {N : Nm} {Wx : WX} {pos pos' : Pos} {e o : PySem.Expr} {f : SE}
structure AtOk (X : Cx) (N : Nm) (i : Nat) (c : Nat) (a : At) : Prop where
  fld : a = .fld → Cls X.K (N.ca c) ∧ NoAttr X.K (N.ca c) (N.an i)
  prop : ∀ G, a = .prop G → Cls X.K (N.ca c) ∧ ∃ p g k fd ps, PropOf X.K (N.ca c) (N.an i) p g ∧ FnOk X.prog X.w X.K X.mg X.base (L2.CX X.prog X.w) k g fd ps (LSp X.K N G) ∧ Room (k + 1) X.A ∧ Binds X.K fd ps []
theorem attr_at {pins : List (Addr × Obj)} {s : Shared} {σ : St} {H : Hp} {ρ : List Addr} {h : Heap} {n i : Nat} {a : Addr} {at_ : Nat → At} {Q : VK} {E : XK} {b : Bool} {E' : Value → Shared → Prop} (ha : ∀ c, AtOk X N i c (at_ c)) (I : Inv X pins σ H s) (hr : HR X.K N ρ h H) (q : ρ[n]? = some a)
    (o : Out X.K N ρ H (match h.get n with
      | some (.ins c fs) => match at_ c with
        | .fld => match fGet fs i with
          | some w => .ok w h
          | none => .bad
        | .prop G => (G [.ref n] h).calm
        | .none => .bad
      | _ => .bad) Q E) : wpAny (model X.prog X.w) X.A (getAttr (.ref a) (N.an i) b) (EP X pins σ Q) E' s := by
  split at o
  · rename_i c fs eg
    obtain ⟨dx, fs', e1, e2, e3⟩ := ins_of hr eg q
    split at o
    · rename_i ec
      split at o
      · rename_i w ew
        obtain ⟨c1, c2⟩ := (ha c).fld ec
        obtain ⟨v, l, rv⟩ := fGet_of e2 e3 ew
        exact getattr_ok I e1 c1 c2 l fun u s' I' ru => ⟨v, H, I', ru, o.val hr rv⟩
      · exact o.elim
    · rename_i G ec
      obtain ⟨c1, p, g, k, fd, ps, h1, h2, h3, h4⟩ := (ha c).prop G ec
      refine getprop_ok I e1 c1 h1 h2 h3 h4 .nil (E := fun _ _ _ => False) (fun _ _ _ _ _ _ _ z => ?_) ?_
      · obtain ⟨_, _, _, _, _, _, _, _, _, _, _, _, z⟩ := z
        exact z
      · refine ⟨ρ, [.ref n], h, .cons (.ref q) .nil, hr, ?_⟩
        cases eG : G [.ref n] h with
        | ok w h1 => rw [eG] at o; exact o
        | exc => rw [eG] at o; exact o.elim
        | bad => rw [eG] at o; exact o.elim
    · exact o.elim
  · exact o.elim
theorem r_attr {i : Nat} {x : Str} {at_ : Nat → At} (ha : ∀ c, AtOk X N i c (at_ c)) (hx : N.an i = x) (he : PE X e (LE X.K N Wx f)) (hb : attributeBase e x X.env (eval e X.env) = eval e X.env) : PE X (.Attribute e x pos) (LE X.K N Wx (eAttr at_ i f)) := by
  subst hx
  refine ⟨fun pins s σ H Q I h => ?_⟩
  have h2 : LE X.K N Wx f σ H fun v H1 => ∃ ρ h x, HR X.K N ρ h H1 ∧ VR X.K ρ H1 x v ∧ Out X.K N ρ H1 ((fun (x : W) (h : Heap) => match x with
    | .ref n => match h.get n with
      | some (.ins c fs) => match at_ c with
        | .fld => match fGet fs i with
          | some w => R.ok w h
          | none => .bad
        | .prop G => (G [.ref n] h).calm
        | .none => .bad
      | _ => .bad
    | _ => .bad) x h) Q (fun c d H' => Wx c d σ H') := one_in h fun ρ ls h H x v l hr rx o => ⟨ρ, h, x, hr, rx, o⟩
  refine attr_of hb (thn (he.run pins s σ H _ I h2) fun u s1 ⟨v, H1, I1, rv, ρ, h, x, hr, rx, o⟩ => ?_)
  cases rx with
  | @ref n a q =>
    obtain rfl : u = Value.ref a := rv
    exact attr_at ha I1 hr q o
  | _ => exact o.elim
/-- o.f = value -/
def gAttr (okc : Nat → Bool) (i : Nat) (f : SE) : SG := fun w ls h => match f ls h with
  | .ok (.ref n) h1 => match h1.get n with
    | some (.ins c fs) => if okc c = true ∧ fs.length < 1000 then .nx ls (h1.put n (.ins c (fPut i w fs))) else .bad
    | _ => .bad
  | .ok _ _ => .bad
  | .exc c fs h1 => .exc c fs ls h1
  | .bad => .bad
theorem gattr_ok (okc : Nat → Bool) (i : Nat) (f : SE) : GOk (gAttr okc i f) := fun w ls h => by
  unfold gAttr
  cases f ls h with
  | ok x h1 =>
    cases x with
    | ref n =>
      simp only
      cases h1.get n with
      | none => exact True.intro
      | some u => cases u with
        | ins c fs =>
          simp only
          split <;> exact True.intro
        | _ => exact True.intro
    | _ => exact True.intro
  | _ => exact True.intro
theorem g_attr {i : Nat} {x : Str} {okc : Nat → Bool} (hk : ∀ c, okc c = true → Cls X.K (N.ca c) ∧ NoAttr X.K (N.ca c) (N.an i)) (hx : N.an i = x) (ho : PE X o (LE X.K N Wx f))
    (ha : ∀ v, assign (.Attribute o x pos) X.env v = (do
      let ov ← holding [v] (eval o X.env)
      standAt pos.atName
      holding [v, ov] (setAttr ov x v)
      release [v, ov] []) := by intro _; rfl) : PG X (.Attribute o x pos) (LG X.K N Wx (gAttr okc i f)) := by
  subst hx
  refine ⟨fun pins s σ H v u Q I r h => ?_⟩
  obtain ⟨ρ, ls, hp, w, l, hr, xw, out⟩ := h
  rw [ha]
  have h2 : LE X.K N Wx f σ H fun y H1 => ∃ a C dx fs, y = .ref a ∧ H1 a = some (.ins C dx fs) ∧ Cls X.K C ∧ NoAttr X.K C (N.an i) ∧ fs.length < 1000 ∧ Q σ (upd H1 a (.ins C dx (putF (N.an i) v fs))) := by
    refine ⟨ρ, ls, hp, l, hr, ?_⟩
    unfold gAttr at out
    cases e1 : f ls hp with
    | ok y h1 =>
      rw [e1] at out
      intro ρ1 H1 v1 ex1 r1 rx1
      cases rx1 with
      | @ref n a q =>
        simp only at out
        split at out
        · rename_i c fs eg
          split at out
          · rename_i z
            obtain ⟨dx, fs', e2, e3, e4⟩ := ins_of r1 eg q
            obtain ⟨c1, c2⟩ := hk c z.1
            obtain ⟨p1, p2⟩ := fPut_of (N := N) (i := i) (xw.ex ex1) e3 e4
            obtain ⟨w1, w2⟩ := r1.setF q e2 p1 p2
            refine ⟨a, _, dx, fs', rfl, e2, c1, c2, ?_, out ρ1 σ _ (ex1.trans (Ex.put q w2)) ((l.ex ex1).ex (Ex.put q w2)) w1⟩
            have := congrArg List.length e3
            simp only [List.length_map] at this
            omega
          · exact out.elim
        · exact out.elim
      | _ => exact out.elim
    | exc c fs h1 => rw [e1] at out; exact fun ρ' H' d ex r z => out ρ' σ H' d ex (l.ex ex) r z
    | bad => rw [e1] at out; exact out.elim
  refine wpAny_bind (wpAny_holding (thn (ho.run pins s σ H _ I h2) fun ov s1 ⟨y, H1, I1, r1, a, C, dx, fs, ey, e2, c1, c2, hl, q⟩ => ?_))
  subst ey
  obtain rfl : ov = Value.ref a := r1
  refine wpAny_bind (wpAny_standAt (wpAny_bind (wpAny_holding (setattr_ok I1 e2 c1 c2 hl r fun s3 I3 => ?_))))
  exact wpAny_release ⟨σ, _, I3, q⟩
end

/-! ### calls -/
/-- a def's promise, where no container is being shown -/
structure FG (P : Program) (w : World) (K : PySem.W.Frag) (mg : Str → Option Value) (base : PySem.Heap) (k : Nat) (f : Addr) (fd : FuncData) (ps : List Str) (sp : Sp) : Prop where
  len : ∀ vs H Q E, sp vs H Q E → vs.length = ps.length
  run : ∀ (A : Around) (outer : List Env) (s : Shared) (H : Hp) (args : Args) (us : List Value) (vs : List V) (Q : VK) (E : XK), Room k A → A.guards = some [] → Env0 P w K mg base A outer s H → BindsTo s fd args (ps.zip us) → Vals vs us → sp vs H Q E →
    codeAny (model P w) A (.call (.ref f) args) (CR (L2.CX P w) outer P w H s Q E) s
theorem FG.of {P : Program} {w : World} {K : PySem.W.Frag} {mg : Str → Option Value} {base : PySem.Heap} {k : Nat} {f : Addr} {fd : FuncData} {ps : List Str} {sp : Sp} (F : FnOk P w K mg base (L2.CX P w) k f fd ps sp) : FG P w K mg base k f fd ps sp :=
  ⟨F.len, fun A outer s H args us vs Q E hr _ => F.run A outer s H args us vs Q E hr⟩
theorem FG.mono {P : Program} {w : World} {K : PySem.W.Frag} {mg : Str → Option Value} {base : PySem.Heap} {j k : Nat} {f : Addr} {fd : FuncData} {ps : List Str} {sp : Sp} (F : FG P w K mg base j f fd ps sp) (h : j ≤ k) : FG P w K mg base k f fd ps sp :=
  ⟨F.len, fun A outer s H args us vs Q E hr => F.run A outer s H args us vs Q E (hr.mono h)⟩
theorem FG.imp {P : Program} {w : World} {K : PySem.W.Frag} {mg : Str → Option Value} {base : PySem.Heap} {k : Nat} {f : Addr} {fd : FuncData} {ps : List Str} {sp sp' : Sp} (F : FG P w K mg base k f fd ps sp) (h : ∀ vs H Q E, sp' vs H Q E → sp vs H Q E) : FG P w K mg base k f fd ps sp' :=
  ⟨fun vs H Q E q => F.len vs H Q E (h _ _ _ _ q), fun A outer s H args us vs Q E hr hg he hb hv hs => F.run A outer s H args us vs Q E hr hg he hb hv (h _ _ _ _ hs)⟩

/-- what is called does G: n positional values, the keywords ks -/
def CalS (X : Cx) (N : Nm) (Wx : WX) (fv : Value) (n : Nat) (ks : List Str) (G : List W → List W → Heap → R) : Prop :=
  ∀ (pins : List (Addr × Obj)) (s : Shared) (σ : St) (H : Hp) (us ws : List Value) (vs zs : List V) (xs ys : List W) (ρ : List Addr) (h : Heap) (Q : VK), Inv X pins σ H s → Vals vs us → Vals zs ws → VRs X.K ρ H xs vs → VRs X.K ρ H ys zs → us.length = n → ws.length = ks.length →
    HR X.K N ρ h H → Out X.K N ρ H (G xs ys h) Q (fun c d H' => Wx c d σ H') → wpAny (model X.prog X.w) X.A (call fv us (ks.zip ws)) (EP X pins σ Q) X.xe s
/-- how a def's parameters are filled: by n positional values, the keywords ks, defaults -/
def KB (K : PySem.W.Frag) (fd : FuncData) (ps : List Str) (n : Nat) (ks : List Str) (gW : List W → List W → List W) : Prop :=
  ∃ g : List Value → List Value → List Value, (∀ (s : Shared) (us ws : List Value), K.In s.heap → us.length = n → ws.length = ks.length → BindsTo s fd ⟨us, ks.zip ws⟩ (ps.zip (g us ws))) ∧
    ∀ {ρ : List Addr} {H : Hp} {xs ys : List W} {vs zs : List V} {us ws : List Value}, VRs K ρ H xs vs → VRs K ρ H ys zs → Vals vs us → Vals zs ws → us.length = n → ws.length = ks.length → ∃ os, VRs K ρ H (gW xs ys) os ∧ Vals os (g us ws)
theorem KB.plain {K : PySem.W.Frag} {fd : FuncData} {ps : List Str} (hb : Binds K fd ps []) : KB K fd ps ps.length [] fun xs _ => xs := by
  refine ⟨fun us _ => us, fun s us ws X l1 l2 => ?_, fun r1 r2 r3 r4 l1 l2 => ⟨_, r1, r3⟩⟩
  have := hb s us X (by rw [List.append_nil]; exact l1)
  rw [List.append_nil] at this
  exact this
/-- defaults fill up -/
theorem KB.dfl {K : PySem.W.Frag} {fd : FuncData} {ps : List Str} {ds : List Value} {dvs : List V} {dws : List W} {n : Nat} (hb : Binds K fd ps ds) (hd : Vals dvs ds) (hw : ∀ ρ H, VRs K ρ H dws dvs) (hn : n + ds.length = ps.length) : KB K fd ps n [] fun xs _ => xs ++ dws := by
  refine ⟨fun us _ => us ++ ds, fun s us ws X l1 l2 => ?_, fun r1 r2 r3 r4 l1 l2 => ⟨_, r1.append (hw _ _), r3.append hd⟩⟩
  exact hb s us X (by rw [List.length_append]; omega)
section
variable {X : Cx} {N : Nm} {Wx : WX} {pos p apos : Pos} {e o : PySem.Expr} {es : List PySem.Expr} {kws : List Keyword} {f : SE} {gs hs : SEs} {k n : Nat} {fa : Addr} {fd : FuncData} {ps ks : List Str} {F : List W → Heap → R} {gW : List W → List W → List W}
theorem cal_fn (FF : FG X.prog X.w X.K X.mg X.base k fa fd ps (LSp X.K N F)) (hr : Room k X.A) (hgu : X.A.guards = some []) (hb : KB X.K fd ps n ks gW) (tk : Takes X Wx) : CalS X N Wx (.ref fa) n ks fun xs ys h => F (gW xs ys) h := by
  intro pins s σ H us ws vs zs xs ys ρ h Q I r1 r2 r3 r4 l1 l2 hh o
  obtain ⟨g, h1, h2⟩ := hb
  obtain ⟨os, z1, z2⟩ := h2 r3 r4 r1 r2 l1 l2
  have sp : LSp X.K N F os H Q (fun c d H' => Wx c d σ H') := ⟨ρ, _, h, z1, hh, o⟩
  have hl := FF.len _ _ _ _ sp
  refine wpAny_call (codeAny_mono (FF.run X.A X.stack s H ⟨us, ks.zip ws⟩ (g us ws) os Q _ hr hgu I.env0 (h1 s us ws I.kIn l1 l2) z2 sp) fun r s' hq => ?_)
  cases r with
  | error e => exact passAt tk σ pins H s e s' I hq
  | ok fl => cases fl with
    | ret u => exact I.after hq
    | _ => exact False.elim hq
/-- C(..): a new instance, then its __init__ -/
def mkObj (c : Nat) (F : List W → Heap → R) (gW : List W → List W → List W) (xs ys : List W) (h : Heap) : R :=
  (F (gW (.ref h.nx :: xs) ys) (h.new (.ins c []))).bind fun w h' => match w with
    | .non => .ok (.ref h.nx) h'
    | _ => .bad
theorem make_guards {A : Around} {C : Addr} {us : List Value} {kw : List (Str × Value)} : (A.under (.builtin "type.__call__" ⟨.ref C :: us, kw⟩)).guards = A.guards := by
  first | rfl | (cases e : A.guards <;> simp [Around.under, Code.guards, Code.isGuard, guardIds, pushGuards, e])
theorem cal_make {c : Nat} (M : Mk X.K (N.ca c) fa) (FF : FG X.prog X.w X.K X.mg X.base k fa fd ps (LSp X.K N F)) (hr : Room (k + 1) X.A) (hgu : X.A.guards = some []) (hb : KB X.K fd ps (n + 1) ks gW) (tk : Takes X Wx) : CalS X N Wx (.ref (N.ca c)) n ks (mkObj c F gW) := by
  intro pins s σ H us ws vs zs xs ys ρ h Q I r1 r2 r3 r4 l1 l2 hh o
  obtain ⟨g, h1, h2⟩ := hb
  have I2 := Inv.made (C := N.ca c) I
  have f1 := I.hok.fresh (Nat.le_succ s.heap.objs.size)
  have f0 := I.hok.fresh (Nat.le_refl s.heap.objs.size)
  have ne : s.heap.objs.size ≠ s.heap.objs.size + 1 := Nat.ne_of_lt (Nat.lt_succ_self _)
  have f2 : upd H s.heap.objs.size (.own (s.heap.objs.size + 1)) (s.heap.objs.size + 1) = none := by rw [upd_ne ne.symm]; exact f1
  have ex1 : Ex ρ ρ H (upd H s.heap.objs.size (.own (s.heap.objs.size + 1))) := Ex.other f0
  have hh1 := hh.other (O := .own (s.heap.objs.size + 1)) f0
  have ex2 := ex1.trans (Ex.alloc (ρ := ρ) (O := .ins (N.ca c) s.heap.objs.size []) f2)
  have hh2 : HR X.K N (ρ ++ [s.heap.objs.size + 1]) (h.new (.ins c [])) _ := hh1.new f2 (O := .ins (N.ca c) s.heap.objs.size []) (.ins rfl .nil)
  have q0 : (ρ ++ [s.heap.objs.size + 1])[h.nx]? = some (s.heap.objs.size + 1) := hh.at_new _
  obtain ⟨os, z1, z2⟩ := h2 (VRs.cons (.ref q0) (r3.ex ex2)) (r4.ex ex2) (.cons rfl r1 : Vals (V.ref (s.heap.objs.size + 1) :: vs) (Value.ref (s.heap.objs.size + 1) :: us)) r2 (by rw [List.length_cons, l1]) l2
  have sp : LSp X.K N F os (upd (upd H s.heap.objs.size (.own (s.heap.objs.size + 1))) (s.heap.objs.size + 1) (.ins (N.ca c) s.heap.objs.size [])) (fun v H2 => v = .non ∧ Q (.ref (s.heap.objs.size + 1)) H2) (fun c d H' => Wx c d σ H') := by
    refine ⟨_, _, _, z1, hh2, ?_⟩
    refine (Out.bind (Out.ex ex2 o)).mono (fun v H1 z => ?_) fun _ _ _ z => z
    obtain ⟨ρ1, w, h1, e1, hr1, rx, o1⟩ := z
    cases rx with
    | non => exact ⟨rfl, o1.val hr1 (.ref (pre_get e1.pre q0))⟩
    | _ => exact o1.elim
  have hl := FF.len _ _ _ _ sp
  refine wpAny_call (make_map (f := fa) I.kIn M.makes M.init (beq_iff_eq.mp M.fn) (codeAny_mono (FF.run _ X.stack _ _ ⟨Value.ref (s.heap.objs.size + 1) :: us, ks.zip ws⟩ (g (Value.ref (s.heap.objs.size + 1) :: us) ws) os _ _ (hr.make (N.ca c) us (ks.zip ws)) (make_guards.trans hgu)
    (I2.env0.make (N.ca c) us (ks.zip ws)) (h1 _ (Value.ref (s.heap.objs.size + 1) :: us) ws I2.kIn (by rw [List.length_cons, l1]) l2) z2 sp) fun r s' hq' => ?_))
  cases r with
  | error e => exact passAt tk σ pins _ _ e s' I2 hq'
  | ok fl => cases fl with
    | ret u =>
      obtain ⟨v, H', I3, rv, ev, q3⟩ := I2.after hq'
      subst ev
      exact ⟨rv, ⟨V.ref (s.heap.objs.size + 1), H', I3, rfl, q3⟩⟩
    | _ => exact False.elim hq'
theorem PK.imp {X : Cx} {e : List Keyword} {t t' : TA} (h : PK X e t) (i : ∀ σ H Q, t' σ H Q → t σ H Q) : PK X e t' := ⟨fun pos pins s σ H Q I q => h.run pos pins s σ H Q I (i σ H Q q)⟩
theorem rk_nil : PK X [] (LA X.K N Wx aNil) := PK.imp pk_nil fun σ H Q ⟨ρ, ls, hp, l, hr, o⟩ => o ρ H [] (Ex.refl _ _) hr .nil
theorem cons_in {K : PySem.W.Frag} {σ : St} {H : Hp} {Q : List V → Hp → Prop} (h : LA K N Wx (aCons f gs) σ H Q) : LE K N Wx f σ H fun x H1 => LA K N Wx gs σ H1 fun xs H2 => Q (x :: xs) H2 := by
  obtain ⟨ρ, ls, hp, l, hr, o⟩ := h
  refine ⟨ρ, ls, hp, l, hr, ?_⟩
  unfold aCons at o
  cases e1 : f ls hp with
  | ok x h1 =>
    rw [e1] at o
    simp only at o
    intro ρ' H' v ex r rx
    refine ⟨ρ', ls, h1, l.ex ex, r, ?_⟩
    cases e2 : gs ls h1 with
    | ok xs h2 =>
      rw [e2] at o
      intro ρ2 H2 vs ex2 r2 rxs
      exact o ρ2 H2 _ (ex.trans ex2) r2 (.cons (rx.ex ex2) rxs)
    | exc c fs h2 => rw [e2] at o; exact fun ρ2 H2 d ex2 r2 z => o ρ2 H2 d (ex.trans ex2) r2 z
    | bad => rw [e2] at o; exact o.elim
  | exc c fs h1 => rw [e1] at o; exact o
  | bad => rw [e1] at o; exact o.elim
theorem rk_cons {nm : Option Str} {kpos : Pos} (ha : PE X e (LE X.K N Wx f)) (hr : PK X kws (LA X.K N Wx gs)) : PK X (⟨nm, e, kpos⟩ :: kws) (LA X.K N Wx (aCons f gs)) := PK.imp (pk_cons ha hr) fun σ H Q h => cons_in h
/-- f(.., k = ..) -/
def eCall (G : List W → List W → Heap → R) (n m : Nat) (gs hs : SEs) : SE := fun ls h => (gs ls h).bind fun xs h1 => (hs ls h1).bind fun ys h2 => if xs.length = n ∧ ys.length = m then G xs ys h2 else .bad
theorem args_in {K : PySem.W.Frag} {σ : St} {H : Hp} {Q : VK} {G : List W → List W → Heap → R} {n m : Nat} {ρ : List Addr} {ls : Ls} {hp : Heap} (l : LR K ρ H ls σ) (hr : HR K N ρ hp H)
    (o : Out K N ρ H ((gs ls hp).bind fun xs h1 => (hs ls h1).bind fun ys h2 => if xs.length = n ∧ ys.length = m then G xs ys h2 else .bad) Q fun c d H' => Wx c d σ H') :
    LA K N Wx gs σ H fun vs H1 => LA K N Wx hs σ H1 fun zs H2 => ∃ ρ2 h xs ys, Ex ρ ρ2 H H2 ∧ HR K N ρ2 h H2 ∧ VRs K ρ2 H2 xs vs ∧ VRs K ρ2 H2 ys zs ∧ xs.length = n ∧ ys.length = m ∧ Out K N ρ2 H2 (G xs ys h) Q (fun c d H' => Wx c d σ H') := by
  refine ⟨ρ, ls, hp, l, hr, ?_⟩
  cases e1 : gs ls hp with
  | ok xs h1 =>
    rw [e1] at o
    simp only [Rs.bind_ok] at o
    intro ρ1 H1 vs ex1 r1 rx
    refine ⟨ρ1, ls, h1, l.ex ex1, r1, ?_⟩
    cases e2 : hs ls h1 with
    | ok ys h2 =>
      rw [e2] at o
      simp only [Rs.bind_ok] at o
      intro ρ2 H2 zs ex2 r2 ry
      split at o
      · rename_i z
        exact ⟨ρ2, h2, xs, ys, ex1.trans ex2, r2, rx.ex ex2, ry, z.1, z.2, Out.ex (ex1.trans ex2) o⟩
      · exact o.elim
    | exc c fs h2 => rw [e2] at o; exact fun ρ2 H2 d ex2 r2 z => o ρ2 H2 d (ex1.trans ex2) r2 z
    | bad => rw [e2] at o; exact o.elim
  | exc c fs h1 => rw [e1] at o; exact o
  | bad => rw [e1] at o; exact o.elim
theorem call_in {K : PySem.W.Frag} {σ : St} {H : Hp} {Q : VK} {G : List W → List W → Heap → R} {n m : Nat} (h : LE K N Wx (eCall G n m gs hs) σ H Q) :
    LA K N Wx gs σ H fun vs H1 => LA K N Wx hs σ H1 fun zs H2 => ∃ ρ h xs ys, HR K N ρ h H2 ∧ VRs K ρ H2 xs vs ∧ VRs K ρ H2 ys zs ∧ xs.length = n ∧ ys.length = m ∧ Out K N ρ H2 (G xs ys h) Q (fun c d H' => Wx c d σ H') := by
  obtain ⟨ρ, ls, hp, l, hr, o⟩ := h
  obtain ⟨ρ', ls', hp', l', hr', o'⟩ := args_in l hr o
  refine ⟨ρ', ls', hp', l', hr', ?_⟩
  cases e1 : gs ls' hp' with
  | ok xs h1 =>
    rw [e1] at o'
    intro ρ1 H1 vs ex1 r1 rx
    obtain ⟨ρa, la, ha, l1, r2, oa⟩ := o' ρ1 H1 vs ex1 r1 rx
    refine ⟨ρa, la, ha, l1, r2, ?_⟩
    cases e2 : hs la ha with
    | ok ys h2 =>
      rw [e2] at oa
      intro ρ2 H2 zs ex2 r3 ry
      obtain ⟨ρ3, h3, xs3, ys3, _, z⟩ := oa ρ2 H2 zs ex2 r3 ry
      exact ⟨ρ3, h3, xs3, ys3, z⟩
    | exc c fs h2 => rw [e2] at oa; exact oa
    | bad => rw [e2] at oa; exact oa.elim
  | exc c fs h1 => rw [e1] at o'; exact o'
  | bad => rw [e1] at o'; exact o'.elim
theorem r_call {x : Str} {fv : Value} {G : List W → List W → Heap → R} (cs : CalS X N Wx fv n ks G) (hg : Gl X x) (hm : X.mg x = some fv) (hk : PySem.W.keepIn X.K fv = true)
    (ha : PA X (e :: es) (LA X.K N Wx gs)) (hkw : PK X kws (LA X.K N Wx hs)) (hall : (backToKw pos (keywordEach kws X.env)).all (·.1.isSome) = true := by rfl) (hks : (backToKw pos (keywordEach kws X.env)).filterMap (·.1) = ks := by rfl)
    (hdb : (x == ("__debug__" : Str)) = false := by decide) (he : starEach (e :: es) X.env = (false, eval e X.env) :: starEach es X.env := by rfl)
    (hpl : ((backTo pos (starEach (e :: es) X.env)).any (·.1) || (backToKw pos (keywordEach kws X.env)).any (·.1.isNone)) = false := by rfl) : PE X (.Call (.Name x p) (e :: es) kws pos) (LE X.K N Wx (eCall G n ks.length gs hs)) := by
  refine ⟨fun pins s σ H Q I h => ?_⟩
  refine wpAny_Call_Name_kw (ld_glob I hg hm ?_ hdb)
  refine PySem.W.callWith_KW (h₀ := X.base) I.ok.mod.kin hk hall (thn (ha.run pos pins s σ H _ I (call_in h)) fun us s1 ⟨vs, H1, I1, r, q⟩ => ?_) hpl he
  refine thn (hkw.run pos pins s1 σ H1 _ I1 q) fun ws s2 ⟨zs, H2, I2, rz, ρ, hp, xs, ys, h1, h2, h3, h4, h5, h6⟩ => ⟨I2.kIn, ?_⟩
  rw [hks]
  exact cs pins s2 σ H2 us ws vs zs xs ys ρ hp Q I2 r rz h2 h3 (by rw [← r.length, ← h2.length, h4]) (by rw [← rz.length, ← h3.length, h5]) h1 h6
theorem r_call0 {x : Str} {fv : Value} {G : List W → List W → Heap → R} (cs : CalS X N Wx fv 0 ks G) (hg : Gl X x) (hm : X.mg x = some fv) (hk : PySem.W.keepIn X.K fv = true)
    (hkw : PK X kws (LA X.K N Wx hs)) (hall : (backToKw pos (keywordEach kws X.env)).all (·.1.isSome) = true := by rfl) (hks : (backToKw pos (keywordEach kws X.env)).filterMap (·.1) = ks := by rfl)
    (hdb : (x == ("__debug__" : Str)) = false := by decide) (hpl : ((backTo pos (starEach [] X.env)).any (·.1) || (backToKw pos (keywordEach kws X.env)).any (·.1.isNone)) = false := by rfl) : PE X (.Call (.Name x p) [] kws pos) (LE X.K N Wx (eCall G 0 ks.length aNil hs)) := by
  refine ⟨fun pins s σ H Q I h => ?_⟩
  refine wpAny_Call_Name_kw (ld_glob I hg hm ?_ hdb)
  refine PySem.W.callWith_KW0 (h₀ := X.base) I.ok.mod.kin hk hall ?_ hpl
  obtain ⟨ρ0, ls0, hp0, l0, hr0, o0⟩ := call_in h
  refine thn (hkw.run pos pins s σ H _ I (o0 ρ0 H [] (Ex.refl _ _) hr0 .nil)) fun ws s2 ⟨zs, H2, I2, rz, ρ, hp, xs, ys, h1, h2, h3, h4, h5, h6⟩ => ⟨I2.kIn, ?_⟩
  rw [hks]
  exact cs pins s2 σ H2 [] ws [] zs xs ys ρ hp Q I2 .nil rz h2 h3 rfl (by rw [← rz.length, ← h3.length, h5]) h1 h6
/-- o.m(..): by the object's class -/
def eMeth (mt : Nat → Option (List W → List W → Heap → R)) (mi n m : Nat) (f : SE) (gs hs : SEs) : SE := fun ls h => (f ls h).bind fun x h0 => match x with
  | .ref j => match h0.get j with
    | some (.ins c fs) => match mt c with
      | some G => if fGet fs mi = none then (gs ls h0).bind fun xs h1 => (hs ls h1).bind fun ys h2 => if xs.length = n ∧ ys.length = m then G (.ref j :: xs) ys h2 else .bad else .bad
      | none => .bad
    | _ => .bad
  | _ => .bad
structure MtOk (X : Cx) (N : Nm) (Wx : WX) (mi : Nat) (n : Nat) (ks : List Str) (c : Nat) (G : List W → List W → Heap → R) : Prop where
  cls : Cls X.K (N.ca c)
  mth : ∃ g, Meth X.K (N.ca c) (N.an mi) g ∧ CalS X N Wx (.ref g) (n + 1) ks G
theorem meth_in {K : PySem.W.Frag} {σ : St} {H : Hp} {Q : VK} {mt : Nat → Option (List W → List W → Heap → R)} {mi n m : Nat} (h : LE K N Wx (eMeth mt mi n m f gs hs) σ H Q) :
    LE K N Wx f σ H fun x H0 => ∃ a c dx fs G ρ ls h j, x = .ref a ∧ H0 a = some (.ins (N.ca c) dx fs) ∧ fs.lookup (N.an mi) = none ∧ mt c = some G ∧ ρ[j]? = some a ∧ LR K ρ H0 ls σ ∧ HR K N ρ h H0 ∧
      Out K N ρ H0 ((gs ls h).bind fun xs h1 => (hs ls h1).bind fun ys h2 => if xs.length = n ∧ ys.length = m then G (.ref j :: xs) ys h2 else .bad) Q fun c d H' => Wx c d σ H' := by
  obtain ⟨ρ, ls, hp, l, hr, o⟩ := h
  refine ⟨ρ, ls, hp, l, hr, (Out.bind o).mono (fun v H1 z => ?_) fun _ _ _ z => z⟩
  obtain ⟨ρ1, x, h1, e1, hr1, rx, o1⟩ := z
  cases rx with
  | @ref j a q =>
    simp only at o1
    split at o1
    · rename_i c fs eg
      split at o1
      · rename_i G em
        split at o1
        · rename_i en
          obtain ⟨dx, fs', g1, g2, g3⟩ := ins_of hr1 eg q
          exact ⟨a, c, dx, fs', G, ρ1, ls, h1, j, rfl, g1, fGet_none g2 en, em, q, l.ex e1, hr1, o1⟩
        · exact o1.elim
      · exact o1.elim
    · exact o1.elim
  | _ => exact o1.elim
theorem r_meth {x : Str} {mi : Nat} {mt : Nat → Option (List W → List W → Heap → R)} {pl : Sem Bool} (hm : ∀ c G, mt c = some G → MtOk X N Wx mi n ks c G) (hx : N.an mi = x) (ho : PE X o (LE X.K N Wx f))
    (ha : PA X (e :: es) (LA X.K N Wx gs)) (hkw : PK X kws (LA X.K N Wx hs)) (hall : (backToKw pos (keywordEach kws X.env)).all (·.1.isSome) = true := by rfl) (hks : (backToKw pos (keywordEach kws X.env)).filterMap (·.1) = ks := by rfl)
    (he : starEach (e :: es) X.env = (false, eval e X.env) :: starEach es X.env := by rfl)
    (hpl : ((backTo pos (starEach (e :: es) X.env)).any (·.1) || (backToKw pos (keywordEach kws X.env)).any (·.1.isNone)) = false := by rfl)
    (ht : eval (.Call (.Attribute o x apos) (e :: es) kws pos) X.env = (do
      let ov ← eval o X.env
      standAt apos.atName
      let (f, first) ← holding [ov] (getMethod ov x pl)
      callWith pos f first (backTo pos (starEach (e :: es) X.env)) (backToKw pos (keywordEach kws X.env))) := by rfl) :
    PE X (.Call (.Attribute o x apos) (e :: es) kws pos) (LE X.K N Wx (eMeth mt mi n ks.length f gs hs)) := by
  subst hx
  refine ⟨fun pins s σ H Q I h => ?_⟩
  refine PySem.W.methodCall_KW (pl := pl) (thn (ho.run pins s σ H _ I (meth_in h)) fun u s1 ⟨v, H1, I1, rv, a, c, dx, fs, G, ρ, ls, hp, j, ev, ea, lk, em, q, l, hr, o⟩ => ?_) ht
  subst ev
  obtain rfl : u = Value.ref a := rv
  obtain ⟨g, hg, cs⟩ := (hm c G em).mth
  refine getmeth_ok I1 ea (hm c G em).cls hg lk ?_
  refine PySem.W.callWith_KW (first := [.ref a]) (h₀ := X.base) I.ok.mod.kin hg.kp hall (thn (ha.run pos pins s1 σ H1 _ I1 (args_in l hr o)) fun us s2 ⟨vs, H2, I2, r, q2⟩ => ?_) hpl he
  refine thn (hkw.run pos pins s2 σ H2 _ I2 q2) fun ws s3 ⟨zs, H3, I3, rz, ρ3, h3, xs, ys, z0, z1, z2, z3, z4, z5, z6⟩ => ⟨I3.kIn, ?_⟩
  rw [hks]
  exact cs pins s3 σ H3 (.ref a :: us) ws (.ref a :: vs) zs (.ref j :: xs) ys ρ3 h3 Q I3 (.cons rfl r) rz (.cons (.ref (pre_get z0.pre q)) z2) z3 (by rw [List.length_cons, ← r.length, ← z2.length, z4]) (by rw [← rz.length, ← z3.length, z5]) z1 z6
theorem r_meth0 {x : Str} {mi : Nat} {mt : Nat → Option (List W → List W → Heap → R)} {pl : Sem Bool} (hm : ∀ c G, mt c = some G → MtOk X N Wx mi 0 [] c G) (hx : N.an mi = x) (ho : PE X o (LE X.K N Wx f))
    (ht : eval (.Call (.Attribute o x apos) [] [] pos) X.env = (do
      let ov ← eval o X.env
      standAt apos.atName
      let (f, first) ← holding [ov] (getMethod ov x pl)
      callWith pos f first (backTo pos (starEach [] X.env)) (backToKw pos (keywordEach [] X.env))) := by rfl) :
    PE X (.Call (.Attribute o x apos) [] [] pos) (LE X.K N Wx (eMeth mt mi 0 0 f aNil aNil)) := by
  subst hx
  refine ⟨fun pins s σ H Q I h => ?_⟩
  refine PySem.W.methodCall_KW (pl := pl) (thn (ho.run pins s σ H _ I (meth_in h)) fun u s1 ⟨v, H1, I1, rv, a, c, dx, fs, G, ρ, ls, hp, j, ev, ea, lk, em, q, l, hr, o⟩ => ?_) ht
  subst ev
  obtain rfl : u = Value.ref a := rv
  obtain ⟨g, hg, cs⟩ := (hm c G em).mth
  refine getmeth_ok I1 ea (hm c G em).cls hg lk ?_
  exact PySem.W.callWith_K0 (first := [.ref a]) I1.kIn hg.kp (cs pins s1 σ H1 [.ref a] [] [.ref a] [] [.ref j] [] ρ hp Q I1 (.cons rfl .nil) .nil (.cons (.ref q) .nil) .nil rfl rfl hr o)
end
end Ev
set_option maxRecDepth 100000
/-! EvDef: defs, their contracts, the law's end. -/
namespace Ev
open PySem L2 PySem.Spec PyProof.Rows
/-- a def as a function -/
def fnOf (n m : Nat) (s : SS) : List W → Heap → R := fun ws h => if ws.length = n then match s (ws.map some ++ List.replicate (m - n) none) h with
  | .nx _ h' => .ok .non h'
  | .rt w h' => .ok w h'
  | .exc c fs _ h' => .exc c fs h'
  | _ => .bad
  else .bad
theorem lr_start {K : PySem.W.Frag} {ρ : List Addr} {H : Hp} : ∀ {ws : List W} {vs : List V} (m : Nat), VRs K ρ H ws vs → LR K ρ H (ws.map some ++ List.replicate m none) (vs.map some ++ List.replicate m none)
  | [], [], m, .nil => ⟨by simp, fun i w e => by
      rw [List.map_nil, List.nil_append, List.getElem?_replicate] at e
      split at e <;> cases e⟩
  | w :: ws, v :: vs, m, .cons q r => by
    obtain ⟨h1, h2⟩ := lr_start m r
    refine ⟨by simpa using h1, fun i x e => ?_⟩
    cases i with
    | zero => simp at e; subst e; exact ⟨v, by simp, q⟩
    | succ i => simpa using h2 i x (by simpa using e)
section
variable {P : Program} {w : World} {K : PySem.W.Frag} {mg : Str → Option Value} {base : PySem.Heap} {x qual : Str} {params : Arguments} {body : List Stmt} {scope : Scope} {dvs : List V} {kws : List (Str × V)} {f : Addr} {fd : FuncData} {N ps : List Str} {k : Nat} {Nn : Nm} {s : SS}
theorem fn_in {σ0 : List V} {H : Hp} {Q : VK} {E : XK} (hl : ps.length ≤ N.length) (h : LSp K Nn (fnOf ps.length N.length s) σ0 H Q E) : LS K Nn (fun c d _ H' => E c d H') s { nx := fun _ H' => Q .non H', rt := Q } (L2.start N σ0) H := by
  obtain ⟨ρ, ws, h, r, hr, o⟩ := h
  unfold fnOf at o
  split at o
  · rename_i hn
    have hl2 : σ0.length = ps.length := by rw [← r.length, hn]
    have l := lr_start (N.length - ps.length) r
    refine ⟨ρ, _, h, by rw [show L2.start N σ0 = σ0.map some ++ List.replicate (N.length - ps.length) none by unfold L2.start; rw [hl2]]; exact l, hr, ?_⟩
    cases e : s (ws.map some ++ List.replicate (N.length - ps.length) none) h with
    | nx ls h' => rw [e] at o; exact fun ρ' σ' H' ex _ r' => o ρ' H' .non ex r' .non
    | rt w h' => rw [e] at o; exact o
    | bk => rw [e] at o; exact o.elim
    | ct => rw [e] at o; exact o.elim
    | exc c fs ls h' => rw [e] at o; exact fun ρ' σ' H' d ex _ r' x' => o ρ' H' d ex r' x'
    | bad => rw [e] at o; exact o.elim
  · exact o.elim
theorem fn_len {σ0 : List V} {H : Hp} {Q : VK} {E : XK} (h : LSp K Nn (fnOf ps.length N.length s) σ0 H Q E) : σ0.length = ps.length := by
  obtain ⟨ρ, ws, h, r, hr, o⟩ := h
  unfold fnOf at o
  split at o
  · rename_i hn; rw [← r.length, hn]
  · exact o.elim
/-- the body of a def, at each entry -/
def BodyOk (P : Program) (w : World) (K : PySem.W.Frag) (mg : Str → Option Value) (base : PySem.Heap) (Nn : Nm) (N : List Str) (qual : Str) (scope : Scope) (body : List Stmt) (f : Addr) (k : Nat) (s : SS) : Prop :=
  ∀ (cdv : Value) (A : Around) (outer : List Env) (st : Shared) (H : Hp) (E : XK), Room k (A.deeper (envOfC qual scope st.heap.objs.size f cdv)) → A.guards = some [] → 
    PSs (cxOf (L2.CX P w) P w K mg base N qual scope f cdv A outer st H E) body (LS K Nn (fun c d _ H' => E c d H') s)
theorem d_fn (F : FunD K x qual params body scope dvs kws f fd) (S : FnScope N ps scope) (hb : BodyOk P w K mg base Nn N qual scope body f k s) : FG P w K mg base (k + 1) f fd ps (LSp K Nn (fnOf ps.length N.length s)) := by
  obtain ⟨oc, od, dV, kV, doc, pm, an, cdv, ct, osl, rfl, lk, hcd, _, _⟩ := F.ex
  have hpl : ps.length ≤ N.length := by have := congrArg List.length S.pre; rw [List.length_take] at this; omega
  refine ⟨fun vs H Q E h => fn_len h, fun A outer st H args us vs Q E hr hg e0 hB r hsp => ?_⟩
  have KX : K.In st.heap := e0.mod.kin.keeps fun b o e => (e0.bs b o e).1
  have lim : st.heap.NoLimit := e0.mod.nolimit.keeps fun b o e => (e0.bs b o e).1
  have hkind : ∀ y ∈ ps.zip us, scope.names.lookup y.1 = some .local ∨ (scope.names.lookup y.1 = some .cell ∧ ((cellsFrom (st.heap.objs.size + 1) scope.names []).lookup y.1).isSome = true) := fun ⟨n, v⟩ hy =>
    (S.par n (List.of_mem_zip hy).1).elim .inl fun q => .inr ⟨q, PySem.W.cellsFrom_some _ _ _ (.inl q)⟩
  refine codeAny_call_function hr.depth (KX _ _ lk) rfl S.co S.gen rfl (PySem.W.codeRec_of KX hcd) (hB _ _ _ _ (wpAny_newFunctionEnv_cells S.kind hkind fun env he s1 z => ?_))
  subst he
  refine ⟨lim.keeps z.toInCall.keep, codeAny_func ?_⟩
  have I : Inv (cxOf (L2.CX P w) P w K mg base N qual scope f cdv A outer st H E) [] (L2.start N vs) H s1 := inv_start S hr.hd e0 (fn_len hsp) r z
  refine wpAny_mono ((hb cdv A outer st H E (hr.deeper _) hg).run [] s1 _ H _ I (fn_in (Q := Q) hpl hsp)) (fun fl s' hs => ?_) fun e s' hs => hs
  have fin : ∀ {σ' : L2.St} {H' : Hp} {v : V} {u : Value}, Inv (cxOf (L2.CX P w) P w K mg base N qual scope f cdv A outer st H E) [] σ' H' s' → RelV v u → Q v H' → CE outer P w H st Q u s' :=
    fun {σ' H' v u} J rv q => ⟨v, H', J.os, J.bare, J.base, J.hok, rv, q⟩
  match fl, hs with
  | .ret u, ⟨v, σ', H', J, rv, q⟩ => exact fin J rv q
  | .next, ⟨σ', H', J, q⟩ => exact fin (v := V.non) (u := Value.none) J rfl q
  | .brk, ⟨_, _, _, q⟩ => exact False.elim q
  | .cont, ⟨_, _, _, q⟩ => exact False.elim q
end
end Ev
set_option maxRecDepth 100000
/-! EvEnd: the law's promise at its entry; the hook that reads facts. -/
namespace Ev
open PySem L2 PySem.Spec PyProof.Rows

/-- the heap in which nothing stands -/
def h0 : Heap := ⟨0, fun _ => none⟩
def scriptW (ns : List Int) : W := .fl (ns.map W.int)
theorem vrs_ints {K : PySem.W.Frag} {ρ : List Addr} {H : Hp} : ∀ ns : List Int, VRs K ρ H (ns.map W.int) (ns.map V.int)
  | [] => .nil
  | n :: ns => .cons (.int n) (vrs_ints ns)
theorem hr_zero {K : PySem.W.Frag} {N : Nm} {H : Hp} : HR K N [] h0 H := ⟨rfl, List.nodup_nil, fun _ m => (nomatch m), fun _ _ e => by cases e⟩

theorem law_ev {P : Program} {w : World} {K : PySem.W.Frag} {Nn : Nm} {mg mb : Str → Option Value} {k : Nat} {fa a : Addr} {fd : FuncData} {x : Str} {G : List W → Heap → R} {s₁ : Shared} {vs : List Value} {ns : List Int} {h' : Heap}
    (KX : K.In s₁.heap) (hns : s₁.heap.Ns mainGlobals mg) (hb : s₁.heap.Ns builtinsNs mb) (hbb : ∀ x : Str, x ≠ "__name__" → mb x = bootBuiltins x) (hlim : s₁.heap.NoLimit) (hg : s₁.gens = #[])
    (ha : s₁.heap.get? a = some { cls := .type "list", data := .seq vs.toArray }) (hi : IntsAre vs ns) (hl : ns.length ≤ sizeLine) (hr : Room k callerA)
    (F : ∀ base : PySem.Heap, K.In base → base.Ns mainGlobals mg → FG P w K mg base k fa fd [x] (LSp K Nn G)) (hbind : ∀ (s : Shared) (u : Value), BindsTo s fd ⟨[u], []⟩ [(x, u)])
    (hG : G [scriptW ns] h0 = .ok (.bl true) h') :
    codeAny (model P w) callerA (.call (.ref fa) ⟨[.ref a], []⟩) (fun r s' => r = .ok (.ret (.bool true)) ∧ OldK s₁.heap s'.heap ∧ s'.os = s₁.os ∧ AllBare s'.gens) s₁ := by
  have rv := vals_ints hi
  have lenV := hi.length
  have bigV : (vs.toArray).size ≤ sizeLine := by rw [List.size_toArray, lenV]; exact hl
  -- the script: the module's own, or locked
  obtain ⟨own, hown⟩ : ∃ b : Bool, b = (K.lookup a).isSome := ⟨_, rfl⟩
  let H : Hp := fun b => if b = a ∧ own = false then some (.frz { cls := .type "list", data := .seq vs.toArray } (.lst (ns.map V.int))) else none
  have Hs : ∀ {b : Addr} {u : HO}, H b = some u → b = a ∧ own = false ∧ u = .frz { cls := .type "list", data := .seq vs.toArray } (.lst (ns.map V.int)) := fun {b u} e => by
    by_cases c : b = a ∧ own = false
    · have e2 := (if_pos c).symm.trans e
      exact ⟨c.1, c.2, (Option.some.inj e2).symm⟩
    · cases (if_neg c).symm.trans e
  have Hn : ∀ {b : Addr}, (b = a → own = false → False) → H b = none := fun c => if_neg fun z => c z.1 z.2
  have hS : SqF K H a (ns.map V.int) := by
    cases e : K.lookup a with
    | some o =>
      have q := KX a o e
      rw [ha] at q; cases q
      exact .inr ⟨_, vs.toArray, _, e, rfl, rfl, rfl, bigV, by simpa using rv⟩
    | none => exact .inl ⟨_, if_pos ⟨rfl, by rw [hown, e]; rfl⟩⟩
  have ok0 : HOk P w H s₁.heap := fun b u e => by
    obtain ⟨rfl, _, rfl⟩ := Hs e
    exact ⟨ha, by rw [List.length_map]; exact hl, vs, _, rv, ha⟩
  have notD : ∀ {b : Addr} {o : Obj} {es : Array DictEntry} {ep : Nat}, s₁.heap.get? b = some o → o.data = .dict es ep → H b = none := fun {b o es ep} e d => Hn fun z _ => by
    subst z
    rw [ha] at e; cases e; cases d
  have up : ∀ {b : Addr} {m : Str → Option Value}, s₁.heap.Ns b m → (hidT s₁.heap H).Ns b m := fun ⟨o, es, ep, e, d, r⟩ => ⟨o, es, ep, hidT_get e (notD e d), d, r⟩
  have KB : K.In (hidT s₁.heap H) := fun b o e => hidT_get (KX b o e) (Hn fun z c => by subst z; rw [hown, e] at c; cases c)
  have M : Mod K mg (hidT s₁.heap H) := ⟨KB, up hns, ⟨mb, up hb, hbb⟩, let ⟨mc, h1, h2⟩ := hlim; ⟨mc, up h1, h2⟩⟩
  have e0 : Env0 P w K mg (hidT s₁.heap H) callerA [] s₁ H := ⟨rfl, M, fun b o e => of_hidT e, Nat.le_of_eq (hidT_size _ _), trivial, fun b hb => (nomatch (show b ∈ ([] : List Addr) from hb)), ok0, .of_eq hg⟩
  have sp : LSp K Nn G [.ref a] H (fun v _ => v = .bl true) (fun _ _ _ => False) := by
    refine ⟨[], [scriptW ns], h0, .cons (.fl hS (vrs_ints ns)) .nil, hr_zero, ?_⟩
    rw [hG]
    intro ρ' H' v _ _ r
    cases r with | bl => rfl
  refine codeAny_mono ((F _ KB (up hns)).run callerA [] s₁ H ⟨[.ref a], []⟩ [.ref a] [.ref a] _ _ hr rfl e0 (hbind s₁ (.ref a)) (.cons rfl .nil) sp) fun r s' q => ?_
  match r, q with
  | .error e, q =>
    obtain ⟨_, _, _, _, _, _, _, _, _, _, _, _, q⟩ := q
    exact q.elim
  | .ok (.ret u), ⟨v, H', os, bare, un, hok', r', q⟩ =>
    have q' : v = .bl true := q
    subst q'
    obtain rfl : u = Value.bool true := r'
    refine ⟨rfl, OldK.of_keep fun b o e => ?_, os, bare⟩
    by_cases c : H b = none
    · exact un.keep b o e c (fun z => nomatch (show b ∈ ([] : List Addr) from z)) (fun z => nomatch z)
    · obtain ⟨u, hu⟩ := Option.ne_none_iff_exists'.mp c
      obtain ⟨_, _, rfl⟩ := Hs hu
      obtain ⟨e2, _⟩ := hok' b _ (un.frzs b _ _ hu)
      obtain ⟨e1, _⟩ := ok0 b _ hu
      rw [e] at e1; cases e1
      exact e2

/-- the law, from the head's facts -/
theorem walk_ev {l : PySem.W.OpenLaw} {n k : Nat} {q : Program} {loose : List Str} {XP : (Str → Option Value) → PySem.Heap → Prop} {YP : World → PySem.Heap → Prop} {d : DefRec} {x : Str} {G : List W → Heap → R}
    (hn : l.most = some n) (hn2 : n ≤ sizeLine) (hdf : d.params.defaults = []) (hr : Room k callerA)
    (hG : ∀ ns : List Int, ns.length ≤ n → ∃ h', G [scriptW ns] h0 = .ok (.bl true) h')
    (F : ∀ (w : World) (mg : Str → Option Value) (fa : Addr) (h : PySem.Heap), YP w h → h.Ns mainGlobals mg → mg d.name = some (.ref fa) →
      ∃ (K : PySem.W.Frag) (fd : FuncData) (Nn : Nm), K.In h ∧ (∀ (s : Shared) (u : Value), BindsTo s fd ⟨[u], []⟩ [(x, u)]) ∧
        ∀ base : PySem.Heap, K.In base → base.Ns mainGlobals mg → FG l.prog w K mg base k fa fd [x] (LSp K Nn G)) :
    PySem.W.WalkO q loose XP YP l.row.toRowW d [] (fun f vs => PySem.call f vs) := by
  refine Att.attach_call hn hdf fun w s₀ s₁ mg mb fa o pm cd doc a vs ns Gd Y ho hd hcd hmg hobj hints hlen hg => ?_
  obtain ⟨K, fd, Nn, KX, hb, hF⟩ := F w mg fa _ Y Gd.T.g hmg
  obtain ⟨h', hG'⟩ := hG ns hlen
  exact law_ev KX Gd.T.g Gd.T.b Gd.T.builtins Gd.T.nolimit hg hobj hints (Nat.le_trans hlen hn2) hr hF hb hG'

/-! ### the hook: any check of the written part, and the defs -/
open He in
def obsE (chk : PySem.W.Frag → Bool) (fn : List DefD) (K : PySem.W.Frag) : AlD := (chk K && fn.all fun d => d.ok K, fn.map fun d => fnW K d.at_)
open He in
def obsEG (n : Nat) (chk : PySem.W.Frag → Bool) (fn : List DefD) (g : Addr → Option Obj) : AlD := obsE chk fn (frG g (asD g n))
open He in
def SaysE (chk : PySem.W.Frag → Bool) (fn : List DefD) (K : PySem.W.Frag) : Prop := obsE chk fn K = valD fn
open He in
def hookE (n : Nat) (chk : PySem.W.Frag → Bool) (fn : List DefD) : PySem.W.Hook where
  α := AlD
  obs := fun s => obsEG n chk fn s.heap.get?
  val := fun _ => valD fn
  says := fun _ h => ∃ K : PySem.W.Frag, K.In h ∧ SaysE chk fn K
  of := fun _ _ e => ⟨_, frG_in, e⟩
  keeps := fun _ _ _ ⟨K, hK, c⟩ k => ⟨K, PySem.W.Frag.In.keeps hK k, c⟩
open He in
theorem obsEG_eq {n : Nat} {ck : PySem.W.Frag → Bool} {fn : List DefD} {g : Addr → Option Obj} {s : Shared} (h : ∀ a, g a = s.heap.get? a) : obsEG n chk fn g = (hookE n chk fn).obs s := by
  have e : g = s.heap.get? := funext h
  rw [e] <;> rfl
section
open He
variable {ck : PySem.W.Frag → Bool} {fn : List DefD} {K : PySem.W.Frag}
theorem SaysE.chk (c : SaysE ck fn K) : ck K = true := (ba (show (ck K && fn.all fun d => d.ok K) = true from congrArg (fun z : AlD => z.1) c)).1
theorem SaysE.def_ (c : SaysE ck fn K) (i : Nat) {d : DefD} (h : fn[i]? = some d := by rfl) : ∃ fd, FunD K d.name d.qual d.params d.body d.scope (d.dvs K) (d.kws K) (fAd K d.at_) fd := by
  have c2 := (ba (show (ck K && fn.all fun d => d.ok K) = true from congrArg (fun z : AlD => z.1) c)).2
  have e : fn.map (fun d => fnW K d.at_) = fn.map DefD.val := congrArg (fun z : AlD => z.2) c
  have e2 : (fn.map fun d => fnW K d.at_)[i]? = (fn.map DefD.val)[i]? := by rw [e]
  rw [List.getElem?_map, List.getElem?_map, h] at e2
  exact DefD.funD (Option.some.inj e2) (List.all_eq_true.mp c2 d (List.mem_of_getElem? h))
end
end Ev
set_option maxRecDepth 100000
/-! EvBlt: built-in functions and methods, comparisons of any data. -/
namespace Ev
open PySem L2

/-! ### comparisons of texts -/
def wLe2 : W → W → Heap → R
  | .int i, .int j, h => .ok (.bl (decide (i ≤ j))) h
  | .str s, .str t, h => .ok (.bl (!decide (t.cps.toList < s.cps.toList))) h
  | _, _, _ => .bad
def wLt2 : W → W → Heap → R
  | .int i, .int j, h => .ok (.bl (decide (i < j))) h
  | .str s, .str t, h => .ok (.bl (decide (s.cps.toList < t.cps.toList))) h
  | _, _, _ => .bad
def wGe2 : W → W → Heap → R
  | .int i, .int j, h => .ok (.bl (decide (j ≤ i))) h
  | .str s, .str t, h => .ok (.bl (!decide (s.cps.toList < t.cps.toList))) h
  | _, _, _ => .bad
def wGt2 : W → W → Heap → R
  | .int i, .int j, h => .ok (.bl (decide (j < i))) h
  | _, _, _ => .bad
/-! ### data -/
def allO {α : Type} (f : W → Option α) : List W → Option (List α)
  | [] => some []
  | x :: xs => match f x, allO f xs with
    | some d, some ds => some (d :: ds)
    | _, _ => none
/-- a value as data: nesting below n -/
def toD (h : Heap) : Nat → W → Option PyData
  | _, .non => some .none
  | _, .bl b => some (.bool b)
  | _, .int i => some (.int i)
  | _, .str s => some (.str s)
  | n + 1, .tup xs => (allO (toD h n) xs).map .tuple
  | n + 1, .fl xs => (allO (toD h n) xs).map .list
  | n + 1, .ref k => match lstAt h k with
    | some xs => (allO (toD h n) xs).map .list
    | none => none
  | _, _ => none
/-- the list that w is -/
def seqW (h : Heap) : W → Option (List W)
  | .ref n => lstAt h n
  | .fl xs => some xs
  | _ => none
def dataEq (h : Heap) (x y : W) : Option Bool := match toD h 60 x, toD h 60 y with
  | some d, some e => if (SeqAt.shaped d && SeqAt.shaped e) = true then some (PyData.eqv d e) else none
  | _, _ => none
def eqO (h : Heap) (x y : W) : Option Bool := match seqW h x, seqW h y with
  | some xs, some ys => if xs.length = ys.length then dataEq h x y else some false
  | _, _ => dataEq h x y
def wEq (x y : W) (h : Heap) : R := match eqO h x y with
  | some b => .ok (.bl b) h
  | none => .bad
def wNe (x y : W) (h : Heap) : R := match eqO h x y with
  | some b => .ok (.bl (!b)) h
  | none => .bad
/-- x in y -/
def inO (h : Heap) (x y : W) : Option Bool := match x, y with
  | .str s, .str t => some (!(Builtin.Str.occurrences t s 0 t.length 1).isEmpty)
  | x, y => match toD h 60 x, toD h 60 y with
    | some d, some (.list ds) => if (SeqAt.shaped d && SeqAt.shaped (.list ds)) = true then some (ds.any fun z => PyData.eqv z d) else none
    | _, _ => none
def wIn (x y : W) (h : Heap) : R := match inO h x y with
  | some b => .ok (.bl b) h
  | none => .bad
def wNin (x y : W) (h : Heap) : R := match inO h x y with
  | some b => .ok (.bl (!b)) h
  | none => .bad
/-- is: None on the right, bools -/
def isO : W → W → Option Bool
  | x, .non => some (W.eqb x .non)
  | .bl a, .bl b => some (decide (a = b))
  | _, _ => none
def wIs (x y : W) (h : Heap) : R := match isO x y with
  | some b => .ok (.bl b) h
  | none => .bad
def wIsnt (x y : W) (h : Heap) : R := match isO x y with
  | some b => .ok (.bl (!b)) h
  | none => .bad
section
variable {K : PySem.W.Frag} {N : Nm} {ρ : List Addr} {h : Heap} {H : Hp}
theorem all_in {F : W → Option PyData} (ih : ∀ w v d, F w = some d → VR K ρ H w v → Dp K H v d) : ∀ {xs : List W} {ys : List V} {ds : List PyData}, allO F xs = some ds → VRs K ρ H xs ys → DpAll K H ys ds
  | [], [], ds, e, .nil => by simp [allO] at e; subst e; exact .nil
  | x :: xs, y :: ys, ds, e, .cons q r => by
    unfold allO at e
    split at e
    · rename_i d ds' e1 e2
      cases e
      exact .cons (ih _ _ _ e1 q) (all_in ih e2 r)
    · cases e
theorem toD_in (hr : HR K N ρ h H) : ∀ (n : Nat) (w : W) (v : V) (d : PyData), toD h n w = some d → VR K ρ H w v → Dp K H v d
  | 0, w, v, d, e, r => by
    cases r <;> simp [toD] at e <;> subst e
    · exact .non
    · exact .bl _
    · exact .int _
    · exact .str _
  | n + 1, w, v, d, e, r => by
    cases r with
    | non => simp [toD] at e; subst e; exact .non
    | bl b => simp [toD] at e; subst e; exact .bl _
    | int i => simp [toD] at e; subst e; exact .int _
    | str s => simp [toD] at e; subst e; exact .str _
    | tup q r =>
      simp only [toD, Option.map_eq_some_iff] at e
      obtain ⟨ds, e, rfl⟩ := e
      exact .tup q (all_in (toD_in hr n) e r)
    | fl q r =>
      simp only [toD, Option.map_eq_some_iff] at e
      obtain ⟨ds, e, rfl⟩ := e
      exact .lst q.sq (all_in (toD_in hr n) e r)
    | ref q =>
      simp only [toD] at e
      split at e
      · rename_i xs z
        simp only [Option.map_eq_some_iff] at e
        obtain ⟨ds, e, rfl⟩ := e
        obtain ⟨ys, h1, h2⟩ := lst_of hr z q
        exact .lst h1 (all_in (toD_in hr n) e h2)
      · cases e
    | gl => simp [toD] at e
    | ty => simp [toD] at e
theorem seqW_in (hr : HR K N ρ h H) {w : W} {v : V} {xs : List W} (e : seqW h w = some xs) (r : VR K ρ H w v) : ∃ a ys, v = .ref a ∧ SqL K H a ys ∧ VRs K ρ H xs ys := by
  cases r with
  | ref q =>
    obtain ⟨ys, h1, h2⟩ := lst_of hr e q
    exact ⟨_, ys, rfl, h1, h2⟩
  | fl q r =>
    simp [seqW] at e; subst e
    exact ⟨_, _, rfl, q.sq, r⟩
  | _ => cases e
end
/-- x == y -/
def rLens (K : PySem.W.Frag) (b : Bool) : R2 := fun x y H Q => ∃ p q xs ys, x = V.ref p ∧ y = V.ref q ∧ SqL K H p xs ∧ SqL K H q ys ∧ xs.length ≠ ys.length ∧ Q (.bl b) H
section
variable {X : Cx} {N : Nm}
theorem op_eqLens (hu : X.A.units + 64 < cLine) : OpR X (compareOp .Eq) (rLens X.K false) := by
  intro pins s σ H x y v u Q I rx ry h
  obtain ⟨p, q, xs, ys, rfl, rfl, h1, h2, ne, z⟩ := h
  cases (show v = Value.ref p from rx)
  cases (show u = Value.ref q from ry)
  obtain ⟨is, r1, l1, _⟩ := I.list h1
  obtain ⟨js, r2, l2, _⟩ := I.list h2
  refine SeqAt.eq_list_lengthsAt l1.isList l2.isList ?_ (by omega) ⟨.bl false, H, I, rfl, z⟩
  have e1 := r1.length
  have e2 := r2.length
  simp only [List.size_toArray, bne_iff_ne, ne_eq]
  omega
theorem op_neLens (hu : X.A.units + 64 < cLine) : OpR X (compareOp .NotEq) (rLens X.K true) := by
  intro pins s σ H x y v u Q I rx ry h
  obtain ⟨p, q, xs, ys, rfl, rfl, h1, h2, ne, z⟩ := h
  cases (show v = Value.ref p from rx)
  cases (show u = Value.ref q from ry)
  obtain ⟨is, r1, l1, _⟩ := I.list h1
  obtain ⟨js, r2, l2, _⟩ := I.list h2
  refine SeqAt.RcNeAt.lists_lengths l1.isList l2.isList ?_ (by omega) X.prog X.w _ _ ⟨.bl true, H, I, rfl, z⟩
  have e1 := r1.length
  have e2 := r2.length
  simp only [List.size_toArray, bne_iff_ne, ne_eq]
  omega
theorem eq_in {K : PySem.W.Frag} {ρ : List Addr} {h : Heap} {H : Hp} {x y : W} {v u : V} {b : Bool} {Q : Bool → Prop} (hr : HR K N ρ h H) (rx : VR K ρ H x v) (ry : VR K ρ H y u) (e : eqO h x y = some b) (q : Q b) :
    (∃ p q xs ys, v = V.ref p ∧ u = V.ref q ∧ SqL K H p xs ∧ SqL K H q ys ∧ xs.length ≠ ys.length ∧ Q false) ∨ ∃ d e, Dp K H v d ∧ Dp K H u e ∧ SeqAt.shaped d = true ∧ SeqAt.shaped e = true ∧ Q (PyData.eqv d e) := by
  have dat : dataEq h x y = some b → ∃ d e, Dp K H v d ∧ Dp K H u e ∧ SeqAt.shaped d = true ∧ SeqAt.shaped e = true ∧ Q (PyData.eqv d e) := fun e => by
    unfold dataEq at e
    split at e
    · rename_i d f e1 e2
      split at e
      · rename_i z
        cases e
        rw [Bool.and_eq_true] at z
        exact ⟨d, f, toD_in hr _ _ _ _ e1 rx, toD_in hr _ _ _ _ e2 ry, z.1, z.2, q⟩
      · cases e
    · cases e
  unfold eqO at e
  split at e
  · rename_i xs ys e1 e2
    split at e
    · exact .inr (dat e)
    · rename_i ne
      cases e
      obtain ⟨p, ps, rfl, h1, h2⟩ := seqW_in hr e1 rx
      obtain ⟨p', ps', rfl, h1', h2'⟩ := seqW_in hr e2 ry
      exact .inl ⟨p, p', ps, ps', rfl, rfl, h1, h1', by rw [← h2.length, ← h2'.length]; exact ne, q⟩
  · exact .inr (dat e)
theorem ok_eq (hu : X.A.units + 64 < cLine) : OpOk X N (compareOp .Eq) wEq := by
  refine ⟨_, (op_eqLens hu).or (op_eqD hu), fun ρ h H x y v u Q E hr rx ry o => ?_⟩
  unfold wEq at o
  split at o
  · rename_i b e
    exact eq_in (Q := fun b => Q (.bl b) H) hr rx ry e (o.val hr (.bl b))
  · exact o.elim
theorem ok_ne (hu : X.A.units + 64 < cLine) : OpOk X N (compareOp .NotEq) wNe := by
  refine ⟨_, (op_neLens hu).or (op_neD hu), fun ρ h H x y v u Q E hr rx ry o => ?_⟩
  unfold wNe at o
  split at o
  · rename_i b e
    exact eq_in (Q := fun b => Q (.bl (!b)) H) hr rx ry e (o.val hr (.bl _))
  · exact o.elim
theorem in_in {K : PySem.W.Frag} {ρ : List Addr} {h : Heap} {H : Hp} {x y : W} {v u : V} {b : Bool} {Q : Bool → Prop} (hr : HR K N ρ h H) (rx : VR K ρ H x v) (ry : VR K ρ H y u) (e : inO h x y = some b) (q : Q b) :
    (∃ i j, v = .str i ∧ u = .str j ∧ Q (!(Builtin.Str.occurrences j i 0 j.length 1).isEmpty)) ∨ ∃ d ds, Dp K H v d ∧ Dp K H u (.list ds) ∧ SeqAt.shaped d = true ∧ SeqAt.shaped (.list ds) = true ∧ Q (ds.any fun z => PyData.eqv z d) := by
  unfold inO at e
  split at e
  · cases e; cases rx; cases ry; exact .inl ⟨_, _, rfl, rfl, q⟩
  · split at e
    · rename_i d ds e1 e2
      split at e
      · rename_i z
        cases e
        rw [Bool.and_eq_true] at z
        exact .inr ⟨d, ds, toD_in hr _ _ _ _ e1 rx, toD_in hr _ _ _ _ e2 ry, z.1, z.2, q⟩
      · cases e
    · cases e
theorem ok_in (hu : X.A.units + 65 < cLine) : OpOk X N (compareOp .In) wIn := by
  refine ⟨_, op_in_str.or (op_inD hu), fun ρ h H x y v u Q E hr rx ry o => ?_⟩
  unfold wIn at o
  split at o
  · rename_i b e
    exact in_in (Q := fun b => Q (.bl b) H) hr rx ry e (o.val hr (.bl b))
  · exact o.elim
theorem ok_nin (hu : X.A.units + 65 < cLine) : OpOk X N (compareOp .NotIn) wNin := by
  refine ⟨_, op_notin_str.or (op_notInD hu), fun ρ h H x y v u Q E hr rx ry o => ?_⟩
  unfold wNin at o
  split at o
  · rename_i b e
    exact in_in (Q := fun b => Q (.bl (!b)) H) hr rx ry e (o.val hr (.bl _))
  · exact o.elim
theorem is_in {K : PySem.W.Frag} {ρ : List Addr} {H : Hp} {x y : W} {v u : V} {b : Bool} {Q : Bool → Prop} (rx : VR K ρ H x v) (ry : VR K ρ H y u) (e : isO x y = some b) (q : Q b) :
    (u = .non ∧ Q (decide (v = .non))) ∨ ∃ a b : Bool, v = .bl a ∧ u = .bl b ∧ Q (decide (a = b)) := by
  unfold isO at e
  split at e
  · cases e
    cases ry
    refine .inl ⟨rfl, ?_⟩
    cases rx <;> simpa [W.eqb] using q
  · cases e; cases rx; cases ry; exact .inr ⟨_, _, rfl, rfl, q⟩
  · cases e
theorem ok_is : OpOk X N (compareOp .Is) wIs := by
  refine ⟨_, op_isN.or op_isBl, fun ρ h H x y v u Q E hr rx ry o => ?_⟩
  unfold wIs at o
  split at o
  · rename_i b e
    exact is_in (Q := fun b => Q (.bl b) H) rx ry e (o.val hr (.bl b))
  · exact o.elim
theorem ok_isnt : OpOk X N (compareOp .IsNot) wIsnt := by
  refine ⟨_, op_notN.or op_notBl, fun ρ h H x y v u Q E hr rx ry o => ?_⟩
  unfold wIsnt at o
  split at o
  · rename_i b e
    exact is_in (Q := fun b => Q (.bl (!b)) H) rx ry e (o.val hr (.bl _))
  · exact o.elim
theorem op_le_str : OpR X (compareOp .LtE) (fun x y H Q => ∃ i j, x = .str i ∧ y = .str j ∧ Q (.bl (!decide (j.cps.toList < i.cps.toList))) H) := by
  intro pins s σ H x y v u Q I rx ry h
  obtain ⟨i, j, rfl, rfl, q⟩ := h
  obtain ⟨t, rfl⟩ := rx
  obtain ⟨t', rfl⟩ := ry
  exact PySem.P.le_str ⟨.bl _, H, I, rfl, by simpa using q⟩
theorem op_ge_str : OpR X (compareOp .GtE) (fun x y H Q => ∃ i j, x = .str i ∧ y = .str j ∧ Q (.bl (!decide (i.cps.toList < j.cps.toList))) H) := by
  intro pins s σ H x y v u Q I rx ry h
  obtain ⟨i, j, rfl, rfl, q⟩ := h
  obtain ⟨t, rfl⟩ := rx
  obtain ⟨t', rfl⟩ := ry
  exact PySem.P.ge_str ⟨.bl _, H, I, rfl, by simpa using q⟩
theorem ok_le2 : OpOk X N (compareOp .LtE) wLe2 := by
  refine ⟨_, op_le.or op_le_str, fun ρ h H x y v u Q E hr rx ry o => ?_⟩
  cases rx <;> cases ry <;> first | exact o.elim | exact .inl ⟨_, _, rfl, rfl, o.val hr (.bl _)⟩ | exact .inr ⟨_, _, rfl, rfl, o.val hr (.bl _)⟩
theorem ok_lt2 : OpOk X N (compareOp .Lt) wLt2 := by
  refine ⟨_, op_lt.or op_lt_str, fun ρ h H x y v u Q E hr rx ry o => ?_⟩
  cases rx <;> cases ry <;> first | exact o.elim | exact .inl ⟨_, _, rfl, rfl, o.val hr (.bl _)⟩ | exact .inr ⟨_, _, rfl, rfl, o.val hr (.bl _)⟩
theorem ok_ge2 : OpOk X N (compareOp .GtE) wGe2 := by
  refine ⟨_, op_ge.or op_ge_str, fun ρ h H x y v u Q E hr rx ry o => ?_⟩
  cases rx <;> cases ry <;> first | exact o.elim | exact .inl ⟨_, _, rfl, rfl, o.val hr (.bl _)⟩ | exact .inr ⟨_, _, rfl, rfl, o.val hr (.bl _)⟩
theorem ok_gt2 : OpOk X N (compareOp .Gt) wGt2 := by
  refine ⟨_, op_gt, fun ρ h H x y v u Q E hr rx ry o => ?_⟩
  cases rx <;> cases ry <;> first | exact o.elim | exact ⟨_, _, rfl, rfl, o.val hr (.bl _)⟩
end

/-! ### calls of built-ins -/
def CalOk (X : Cx) (N : Nm) (f : Value) (op : List W → Heap → R) : Prop :=
  ∃ r, CallR X f r ∧ ∀ ρ h H ws vs Q E, HR X.K N ρ h H → VRs X.K ρ H ws vs → Out X.K N ρ H (op ws h) Q E → r vs H Q
def eB (op : List W → Heap → R) (gs : SEs) : SE := fun ls h => (gs ls h).bind op
section
variable {X : Cx} {N : Nm} {Wx : WX} {pos p apos : Pos} {e o : PySem.Expr} {es : List PySem.Expr} {f : SE} {gs : SEs} {op : List W → Heap → R} {id T : String} {x name : Str}
theorem b_in {K : PySem.W.Frag} {σ : St} {H : Hp} {Q : VK} {r : List V → Hp → VK → Prop} (h2 : ∀ ρ h H ws vs Q E, HR K N ρ h H → VRs K ρ H ws vs → Out K N ρ H (op ws h) Q E → r vs H Q) (h : LE K N Wx (eB op gs) σ H Q) : tCB r (LA K N Wx gs) σ H Q := by
  obtain ⟨ρ, ls, hp, l, hr, o⟩ := h
  refine ⟨ρ, ls, hp, l, hr, ?_⟩
  unfold eB at o
  cases e1 : gs ls hp with
  | ok xs h1 => rw [e1, Rs.bind_ok] at o; exact fun ρ' H' vs ex r rx => h2 ρ' h1 H' xs vs Q _ r rx (Out.ex ex o)
  | exc c fs h1 => rw [e1] at o; exact o
  | bad => rw [e1] at o; exact o.elim
theorem r_callB (hc : CalOk X N (.builtin id) op) (hg : Gl X x) (hm : X.mg x = none) (hv : bootBuiltins x = some (.builtin id)) (ha : PA X (e :: es) (LA X.K N Wx gs)) (hn : x ≠ "__name__" := by decide) (hdb : (x == ("__debug__" : Str)) = false := by decide)
    (he : starEach (e :: es) X.env = (false, eval e X.env) :: starEach es X.env := by rfl) (hpl : (backTo pos (starEach es X.env)).any (·.1) = false := by rfl) : PE X (.Call (.Name x p) (e :: es) [] pos) (LE X.K N Wx (eB op gs)) := by
  obtain ⟨r, h1, h2⟩ := hc
  exact PE.imp (pe_callB h1 hg hm hv ha hn hdb he hpl) fun σ H Q h => b_in h2 h
theorem r_callTy (hc : CalOk X N (.type T) op) (hg : Gl X x) (hm : X.mg x = none) (hv : bootBuiltins x = some (.type T)) (ha : PA X (e :: es) (LA X.K N Wx gs)) (hn : x ≠ "__name__" := by decide) (hdb : (x == ("__debug__" : Str)) = false := by decide)
    (he : starEach (e :: es) X.env = (false, eval e X.env) :: starEach es X.env := by rfl) (hpl : (backTo pos (starEach es X.env)).any (·.1) = false := by rfl) : PE X (.Call (.Name x p) (e :: es) [] pos) (LE X.K N Wx (eB op gs)) := by
  obtain ⟨r, h1, h2⟩ := hc
  exact PE.imp (pe_callTy h1 hg hm hv ha hn hdb he hpl) fun σ H Q h => b_in h2 h
/-- a built-in type as a value -/
theorem r_ty (hg : Gl X x) (hm : X.mg x = none) (hv : bootBuiltins x = some (.type T)) (hn : x ≠ "__name__" := by decide) (hdb : (x == ("__debug__" : Str)) = false := by decide) : PE X (.Name x pos) (LE X.K N Wx (eW (.ty T))) :=
  r_const (pe_bltn (v := .ty T) hg hm hv rfl hn hdb) fun _ _ => .ty T
/-! methods -/
/-- the built-in type that has w -/
def wTyp (h : Heap) : W → String
  | .str _ => "str"
  | .int _ => "int"
  | .fl _ => "list"
  | .ref n => match h.get n with
    | some (.lst _) => "list"
    | some (.dct _) => "dict"
    | _ => ""
  | _ => ""
theorem typ_in {K : PySem.W.Frag} {ρ : List Addr} {h : Heap} {H : Hp} {w : W} {v : V} {T : String} (hr : HR K N ρ h H) (r : VR K ρ H w v) (e : wTyp h w = T) (nT : T ≠ "") : tyV K T v H := by
  cases r with
  | str s => exact e.symm
  | int i => exact e.symm
  | fl q r => exact .inl ⟨e.symm, _, q.sq⟩
  | ref q =>
    simp only [wTyp] at e
    split at e
    · rename_i xs z
      obtain ⟨ys, h1, _⟩ := lst_mut hr z q
      exact .inl ⟨e.symm, ys, .inl (.inl h1)⟩
    · rename_i kvs z
      obtain ⟨ks, h1, _⟩ := dct_of hr z q
      exact .inr (.inr (.inl ⟨e.symm, .inl ⟨ks, h1⟩⟩))
    · exact (nT e.symm).elim
  | _ => exact (nT e.symm).elim
def BmOk (X : Cx) (N : Nm) (id : String) (op : W → List W → Heap → R) : Prop :=
  ∃ r, MtR X id r ∧ ∀ ρ h H w ws v vs Q E, HR X.K N ρ h H → VR X.K ρ H w v → VRs X.K ρ H ws vs → Out X.K N ρ H (op w ws h) Q E → r v vs H Q
def eBm (T : String) (op : W → List W → Heap → R) (f : SE) (gs : SEs) : SE := fun ls h => (f ls h).bind fun x h1 => if wTyp h1 x = T then (gs ls h1).bind fun xs h2 => op x xs h2 else .bad
variable {bop : W → List W → Heap → R}
theorem r_bm (pa : PlainAttrs T) (slot : Slot T name id) (hty : typeOf (.builtin id) = pure (.type "method_descriptor")) (hm : BmOk X N id bop) (ho : PE X o (LE X.K N Wx f)) (ha : PA X (e :: es) (LA X.K N Wx gs)) (nT : T ≠ "" := by decide)
    (hbase : attributeBase o name X.env (eval o X.env) = eval o X.env := by rfl)
    (hfew : ((backTo pos (starEach (e :: es) X.env)).all (fun x => !x.1) && (backToKw pos (keywordEach [] X.env)).all (fun x => x.1.isSome)
      && decide ((e :: es).length + ([] : List Keyword).length + (if ([] : List Keyword).isEmpty then 0 else 1) < 30)) = true := by rfl)
    (hline : (apos.endLine == pos.line) = true := by rfl) (hs : starEach (e :: es) X.env = (false, eval e X.env) :: starEach es X.env := by rfl) (hplain : (backTo pos (starEach es X.env)).any (·.1) = false := by rfl) :
    PE X (.Call (.Attribute o name apos) (e :: es) [] pos) (LE X.K N Wx (eBm T bop f gs)) := by
  obtain ⟨r, h1, h2⟩ := hm
  refine PE.imp (pe_bm pa slot hty h1 ho ha hbase hfew hline hs hplain) fun σ H Q h => ?_
  obtain ⟨ρ, ls, hp, l, hr, oo⟩ := h
  refine ⟨ρ, ls, hp, l, hr, (Out.bind oo).mono (fun v H1 z => ?_) fun _ _ _ z => z⟩
  obtain ⟨ρ1, x, h3, e1, hr1, rx, o1⟩ := z
  split at o1
  · rename_i et
    refine ⟨typ_in hr1 rx et nT, ρ1, ls, h3, l.ex e1, hr1, ?_⟩
    cases e2 : gs ls h3 with
    | ok xs h4 => rw [e2, Rs.bind_ok] at o1; exact fun ρ' H' vs ex r' rxs => h2 ρ' h4 H' x xs v vs Q _ r' (rx.ex ex) rxs (Out.ex ex o1)
    | exc c fs h4 => rw [e2] at o1; exact o1
    | bad => rw [e2] at o1; exact o1.elim
  · exact o1.elim
theorem r_bm0 (pa : PlainAttrs T) (slot : Slot T name id) (hty : typeOf (.builtin id) = pure (.type "method_descriptor")) (hm : BmOk X N id bop) (ho : PE X o (LE X.K N Wx f)) (nT : T ≠ "" := by decide)
    (hbase : attributeBase o name X.env (eval o X.env) = eval o X.env := by rfl) (hline : (apos.endLine == pos.line) = true := by rfl) :
    PE X (.Call (.Attribute o name apos) [] [] pos) (LE X.K N Wx (eBm T bop f aNil)) := by
  obtain ⟨r, h1, h2⟩ := hm
  refine PE.imp (pe_bm0 pa slot hty h1 ho hbase hline) fun σ H Q h => ?_
  obtain ⟨ρ, ls, hp, l, hr, oo⟩ := h
  refine ⟨ρ, ls, hp, l, hr, (Out.bind oo).mono (fun v H1 z => ?_) fun _ _ _ z => z⟩
  obtain ⟨ρ1, x, h3, e1, hr1, rx, o1⟩ := z
  split at o1
  · rename_i et
    exact ⟨typ_in hr1 rx et nT, h2 ρ1 h3 H1 x [] v [] Q _ hr1 rx .nil o1⟩
  · exact o1.elim
end
end Ev
set_option maxRecDepth 100000
/-! EvBlt2: what the built-ins do. -/
namespace Ev
open PySem L2
/-- len -/
def bLen : List W → Heap → R
  | [.str s], h => if s.length ≤ sizeLine then .ok (.int s.length) h else .bad
  | [.tup xs], h => .ok (.int xs.length) h
  | [w], h => match seqW h w with
    | some xs => .ok (.int xs.length) h
    | none => .bad
  | _, _ => .bad
def bMax2 : List W → Heap → R
  | [.int i, .int j], h => .ok (.int (if j > i then j else i)) h
  | _, _ => .bad
def bMin2 : List W → Heap → R
  | [.int i, .int j], h => .ok (.int (if j < i then j else i)) h
  | _, _ => .bad
def bOrd : List W → Heap → R
  | [.str s], h => if s.length = 1 then .ok (.int (s.cps.getD 0 0 : Nat)) h else .bad
  | _, _ => .bad
def blsOf : List W → Option (List Bool)
  | [] => some []
  | .bl b :: r => (blsOf r).map (b :: ·)
  | _ => none
def bAll : List W → Heap → R
  | [w], h => match (seqW h w).bind blsOf with
    | some bs => .ok (.bl (bs.all id)) h
    | none => .bad
  | _, _ => .bad
def bAny : List W → Heap → R
  | [w], h => match (seqW h w).bind blsOf with
    | some bs => .ok (.bl (bs.any id)) h
    | none => .bad
  | _, _ => .bad
/-- repr of data -/
def bRepr : List W → Heap → R
  | [.int i], h => if i.natAbs.log2 < 1920 then .ok (.str (toString i)) h else .bad
  | [w], h => match w, toD h 60 w with
    | .str _, _ => .bad
    | .non, _ => .bad
    | .bl _, _ => .bad
    | _, some d => if d.hasDict = false ∧ d.showable = true ∧ d.depth ≤ 60 ∧ d.shown.length ≤ sizeLine then .ok (.str d.shown) h else .bad
    | _, _ => .bad
  | _, _ => .bad
/-- types, for isinstance: a built-in one, an own class -/
inductive Ty where
  | b (t : String) | c (n : Nat)
def tyOf (h : Heap) : W → Option Ty
  | .non => some (.b "NoneType")
  | .bl _ => some (.b "bool")
  | .int _ => some (.b "int")
  | .str _ => some (.b "str")
  | .tup _ => some (.b "tuple")
  | .fl _ => some (.b "list")
  | .ref n => match h.get n with
    | some (.lst _) => some (.b "list")
    | some (.dct _) => some (.b "dict")
    | some (.ins c _) => some (.c c)
    | _ => none
  | _ => none
/-- isinstance; cl: the answers where an own class is asked or the value is an instance -/
def isiO (cl : Ty → W → Option Bool) : Ty → W → Option Bool
  | .b t, .ty u => kitB t u
  | t, w => cl t w
def bIsi (cl : Ty → W → Option Bool) : List W → Heap → R
  | [x, c], h => match tyOf h x with
    | some t => match isiO cl t c with
      | some b => .ok (.bl b) h
      | none => .bad
    | none => .bad
  | _, _ => .bad
def tyV' (N : Nm) : Ty → Value
  | .b t => .type t
  | .c n => .ref (N.ca n)
/-- cl is right -/
structure IsiOk (X : Cx) (N : Nm) (cl : Ty → W → Option Bool) : Prop where
  own : ∀ t w b, cl t w = some b → ∃ a, w = .gl a ∧ PySem.W.kitOne X.K (tyV' N t) (.ref a) = some b
  cls : ∀ n w b, cl (.c n) w = some b → Cls X.K (N.ca n) ∧ PySem.W.findIn X.K (.ref (N.ca n)) "__class__" = some (some (.builtin "object.__class__")) ∧
    PySem.W.specialIn X.K (.builtin "object.__class__") "__get__" = some (some (.builtin "getset_descriptor.__get__")) ∧ PySem.W.takesIn X.K (.builtin "object.__class__") = some true ∧ PySem.W.mroIn X.K (N.ca n) (.type "object") = some true
section
variable {X : Cx} {N : Nm}
theorem okb_len : CalOk X N (.builtin "len") bLen := by
  refine ⟨_, call_len, fun ρ h H ws vs Q E hr r o => ?_⟩
  match ws, r with
  | [], _ => exact o.elim
  | [w], .cons (y := vv) q .nil =>
    have lst : ∀ (o : Out X.K N ρ H (match seqW h w with | some xs => .ok (.int xs.length) h | none => .bad) Q E), ∃ x n, [vv] = [x] ∧ LenV X.K x H n ∧ Q (.int n) H := fun o => by
      split at o
      · rename_i xs e
        obtain ⟨a, ys, rfl, h1, h2⟩ := seqW_in hr e q
        exact ⟨V.ref a, ys.length, rfl, Or.inl ⟨ys, h1, rfl⟩, by rw [← h2.length]; exact o.val hr (.int _)⟩
      · exact o.elim
    cases q with
    | str s =>
      simp only [bLen] at o
      split at o
      · exact ⟨_, _, rfl, ⟨by assumption, rfl⟩, o.val hr (.int _)⟩
      · exact o.elim
    | @tup _ ys a q r => exact ⟨V.ref a, ys.length, rfl, Or.inr ⟨_, q, rfl⟩, by rw [← r.length]; exact o.val hr (.int _)⟩
    | fl q r => exact lst o
    | ref q => exact lst o
    | _ => exact o.elim
  | w :: w' :: ws, r => cases w <;> exact o.elim
theorem two_args {K : PySem.W.Frag} {ρ : List Addr} {H : Hp} {ws : List W} {vs : List V} (r : VRs K ρ H ws vs) : (∃ x y v u, ws = [x, y] ∧ vs = [v, u] ∧ VR K ρ H x v ∧ VR K ρ H y u) ∨ ∀ x y, ws ≠ [x, y] := by
  match ws, r with
  | [], _ => exact .inr fun _ _ e => nomatch e
  | [_], _ => exact .inr fun _ _ e => nomatch e
  | [x, y], .cons q (.cons q' .nil) => exact .inl ⟨x, y, _, _, rfl, rfl, q, q'⟩
  | _ :: _ :: _ :: _, _ => exact .inr fun _ _ e => nomatch e
theorem one_arg {K : PySem.W.Frag} {ρ : List Addr} {H : Hp} {ws : List W} {vs : List V} (r : VRs K ρ H ws vs) : (∃ x v, ws = [x] ∧ vs = [v] ∧ VR K ρ H x v) ∨ ∀ x, ws ≠ [x] := by
  match ws, r with
  | [], _ => exact .inr fun _ e => nomatch e
  | [x], .cons q .nil => exact .inl ⟨x, _, rfl, rfl, q⟩
  | _ :: _ :: _, _ => exact .inr fun _ e => nomatch e
theorem okb_max2 (hc : X.calm = true) : CalOk X N (.builtin "max") bMax2 := by
  refine ⟨_, call_max2 hc, fun ρ h H ws vs Q E hr r o => ?_⟩
  unfold bMax2 at o
  split at o
  · match r with | .cons q (.cons q' .nil) => cases q; cases q'; exact ⟨_, _, rfl, o.val hr (.int _)⟩
  · exact o.elim
theorem okb_min2 (hc : X.calm = true) : CalOk X N (.builtin "min") bMin2 := by
  refine ⟨_, call_min2 hc, fun ρ h H ws vs Q E hr r o => ?_⟩
  unfold bMin2 at o
  split at o
  · match r with | .cons q (.cons q' .nil) => cases q; cases q'; exact ⟨_, _, rfl, o.val hr (.int _)⟩
  · exact o.elim
theorem okb_ord : CalOk X N (.builtin "ord") bOrd := by
  refine ⟨_, call_ord, fun ρ h H ws vs Q E hr r o => ?_⟩
  unfold bOrd at o
  split at o
  · split at o
    · match r with | .cons q .nil => cases q; exact ⟨_, rfl, by assumption, o.val hr (.int _)⟩
    · exact o.elim
  · exact o.elim
theorem bls_in {K : PySem.W.Frag} {ρ : List Addr} {H : Hp} : ∀ {xs : List W} {ys : List V} {bs : List Bool}, blsOf xs = some bs → VRs K ρ H xs ys → ys = bs.map V.bl
  | [], [], bs, e, .nil => by simp [blsOf] at e; subst e; rfl
  | x :: xs, y :: ys, bs, e, .cons q r => by
    cases q with
    | bl b =>
      simp only [blsOf, Option.map_eq_some_iff] at e
      obtain ⟨cs, e, rfl⟩ := e
      rw [bls_in e r]
      rfl
    | _ => simp [blsOf] at e
theorem okb_all (hc : X.calm = true) : CalOk X N (.builtin "all") bAll := by
  refine ⟨_, cr_all hc, fun ρ h H ws vs Q E hr r o => ?_⟩
  unfold bAll at o
  split at o
  · split at o
    · rename_i bs e
      match r with
      | .cons q .nil =>
        rw [Option.bind_eq_some_iff] at e
        obtain ⟨xs, e1, e2⟩ := e
        obtain ⟨a, ys, rfl, h1, h2⟩ := seqW_in hr e1 q
        rw [bls_in e2 h2] at h1
        exact ⟨a, bs, rfl, h1, o.val hr (.bl _)⟩
    · exact o.elim
  · exact o.elim
theorem okb_any (hc : X.calm = true) : CalOk X N (.builtin "any") bAny := by
  refine ⟨_, cr_any hc, fun ρ h H ws vs Q E hr r o => ?_⟩
  unfold bAny at o
  split at o
  · split at o
    · rename_i bs e
      match r with
      | .cons q .nil =>
        rw [Option.bind_eq_some_iff] at e
        obtain ⟨xs, e1, e2⟩ := e
        obtain ⟨a, ys, rfl, h1, h2⟩ := seqW_in hr e1 q
        rw [bls_in e2 h2] at h1
        exact ⟨a, bs, rfl, h1, o.val hr (.bl _)⟩
    · exact o.elim
  · exact o.elim
def rReprD (K : PySem.W.Frag) : List V → Hp → VK → Prop := fun xs H Q => ∃ a d, xs = [V.ref a] ∧ Dp K H (.ref a) d ∧ d.hasDict = false ∧ d.showable = true ∧ d.depth ≤ 60 ∧ d.shown.length ≤ sizeLine ∧ Q (.str d.shown) H
theorem call_reprD (hg : X.A.guards = some []) (hu : X.A.units + 64 < cLine) : CallR X (.builtin "repr") (rReprD X.K) := by
  intro pins s σ H xs us Q I r h
  obtain ⟨a, d, rfl, hd, h1, h2, h3, h4, q⟩ := h
  obtain ⟨u, rfl, ru⟩ := vals1 r
  cases (show u = Value.ref a from ru)
  obtain ⟨as, rd⟩ := Dp.reads I d _ _ hd rfl
  refine repr_of_reads' rd h2 (PyData.noDict_hsm h1) hg (by omega) (fun _ _ e => e) (fun h' u tk hk => ?_) h4
  exact ⟨.str _, H, I.kept hk, ⟨u, rfl⟩, q⟩
theorem okb_repr (hg : X.A.guards = some []) (hu : X.A.units + 64 < cLine) : CalOk X N (.builtin "repr") bRepr := by
  refine ⟨_, CallR.or SkE.call_repr_int (call_reprD hg hu), fun ρ h H ws vs Q E hr r o => ?_⟩
  rcases one_arg r with ⟨x, v, rfl, rfl, q⟩ | n
  · cases q with
    | int i =>
      simp only [bRepr] at o
      split at o
      · exact .inl ⟨_, rfl, by assumption, o.val hr (.str _)⟩
      · exact o.elim
    | tup q r' =>
      simp only [bRepr] at o
      split at o
      · exact o.elim
      · exact o.elim
      · exact o.elim
      · rename_i d e _ _ _
        split at o
        · rename_i z
          exact .inr ⟨_, d, rfl, toD_in hr _ _ _ _ e (.tup q r'), z.1, z.2.1, z.2.2.1, z.2.2.2, o.val hr (.str _)⟩
        · exact o.elim
      · exact o.elim
    | fl q r' =>
      simp only [bRepr] at o
      split at o
      · exact o.elim
      · exact o.elim
      · exact o.elim
      · rename_i d e _ _ _
        split at o
        · rename_i z
          exact .inr ⟨_, d, rfl, toD_in hr _ _ _ _ e (.fl q r'), z.1, z.2.1, z.2.2.1, z.2.2.2, o.val hr (.str _)⟩
        · exact o.elim
      · exact o.elim
    | ref q =>
      simp only [bRepr] at o
      split at o
      · exact o.elim
      · exact o.elim
      · exact o.elim
      · rename_i d e _ _ _
        split at o
        · rename_i z
          exact .inr ⟨_, d, rfl, toD_in hr _ _ _ _ e (.ref q), z.1, z.2.1, z.2.2.1, z.2.2.2, o.val hr (.str _)⟩
        · exact o.elim
      · exact o.elim
    | _ => exact o.elim
  · unfold bRepr at o
    split at o
    · exact (n _ rfl).elim
    · exact (n _ rfl).elim
    · exact o.elim
theorem ty_in {K : PySem.W.Frag} {ρ : List Addr} {h : Heap} {H : Hp} {w : W} {v : V} {t : Ty} (hr : HR K N ρ h H) (r : VR K ρ H w v) (e : tyOf h w = some t) (hc : ∀ n, t = .c n → Cls K (N.ca n) ∧ PySem.W.findIn K (.ref (N.ca n)) "__class__" = some (some (.builtin "object.__class__")) ∧
    PySem.W.specialIn K (.builtin "object.__class__") "__get__" = some (some (.builtin "getset_descriptor.__get__")) ∧ PySem.W.takesIn K (.builtin "object.__class__") = some true ∧ PySem.W.mroIn K (N.ca n) (.type "object") = some true) : TyX K H v (tyV' N t) := by
  cases r with
  | non => cases e; exact .base .non
  | bl b => cases e; exact .base (.bl b)
  | int i => cases e; exact .base (.int i)
  | str s => cases e; exact .base (.str s)
  | tup q r =>
    cases e
    rcases q with (q | ⟨o, q⟩) | ⟨o, _, _, q, c, _⟩
    · exact .base (.tup q)
    · exact .fTuple q
    · exact .kTuple q c
  | fl q r =>
    cases e
    rcases q with ⟨o, q⟩ | ⟨o, _, _, q, c, _⟩
    · exact .base (.frz q)
    · exact .kList q c
  | ref q =>
    simp only [tyOf] at e
    split at e
    · rename_i xs z
      cases e
      obtain ⟨ys, h1, _⟩ := lst_mut hr z q
      exact .base (.lst h1)
    · rename_i kvs z
      cases e
      obtain ⟨ks, h1, _⟩ := dct_of hr z q
      exact .base (.dK h1)
    · rename_i c fs z
      cases e
      obtain ⟨dx, fs', h1, _⟩ := ins_of hr z q
      obtain ⟨c1, c2, c3, c4, c5⟩ := hc c rfl
      exact .base (.ins h1 c1 c2 c3 c4 c5)
    · cases e
  | gl => cases e
  | ty => cases e
theorem okb_isi {cl : Ty → W → Option Bool} (ok : IsiOk X N cl) : CalOk X N (.builtin "isinstance") (bIsi cl) := by
  refine ⟨_, call_isi, fun ρ h H ws vs Q E hr r o => ?_⟩
  rcases two_args r with ⟨x, c, v, u, rfl, rfl, q1, q2⟩ | n
  · simp only [bIsi] at o
    split at o
    · rename_i t et
      split at o
      · rename_i b eb
        unfold isiO at eb
        split at eb
        · rename_i t' u'
          cases q2
          exact ⟨v, _, _, _, b, rfl, .ty _, ty_in hr q1 et (fun n z => nomatch z), kit_ty eb, o.val hr (.bl b)⟩
        · obtain ⟨a, rfl, k⟩ := ok.own _ _ _ eb
          cases q2
          exact ⟨v, _, _, _, b, rfl, .own a, ty_in hr q1 et (fun n z => by subst z; exact ok.cls n _ _ eb), k, o.val hr (.bl b)⟩
      · exact o.elim
    · exact o.elim
  · unfold bIsi at o
    split at o
    · exact (n _ _ rfl).elim
    · exact o.elim
def clNo : Ty → W → Option Bool := fun _ _ => none
theorem isi_no : IsiOk X N clNo := ⟨fun t w b (e : none = some b) => (nomatch e), fun n w b (e : none = some b) => (nomatch e)⟩
/-! methods of texts -/
def strsOf : List W → Option (List Str)
  | [] => some []
  | .str b :: r => (strsOf r).map (b :: ·)
  | _ => none
def mJoin : W → List W → Heap → R
  | .str a, [w], h => match (match w with | .tup xs => some xs | w => seqW h w).bind strsOf with
    | some ys => if (ys.map (·.length)).sum + ys.length * a.length ≤ 16777216 then .ok (.str (Txt.join a ys)) h else .bad
    | none => .bad
  | _, _, _ => .bad
theorem strs_in {K : PySem.W.Frag} {ρ : List Addr} {H : Hp} : ∀ {xs : List W} {ys : List V} {bs : List Str}, strsOf xs = some bs → VRs K ρ H xs ys → ys = bs.map V.str
  | [], [], bs, e, .nil => by simp [strsOf] at e; subst e; rfl
  | x :: xs, y :: ys, bs, e, .cons q r => by
    cases q with
    | str b =>
      simp only [strsOf, Option.map_eq_some_iff] at e
      obtain ⟨cs, e, rfl⟩ := e
      rw [strs_in e r]
      rfl
    | _ => simp [strsOf] at e
theorem okm_join : BmOk X N "str.join" mJoin := by
  refine ⟨_, mt_join, fun ρ h H w ws v vs Q E hr rw rws o => ?_⟩
  unfold mJoin at o
  split at o
  · rename_i a w
    cases rw
    match vs, rws with
    | [vv], .cons q .nil =>
      split at o
      · rename_i ys e
        split at o
        · rename_i hz
          rw [Option.bind_eq_some_iff] at e
          obtain ⟨xs, e1, e2⟩ := e
          have z : ∃ p, vv = V.ref p ∧ (SqL X.K H p (ys.map V.str) ∨ SqT X.K H p (ys.map V.str)) := by
            split at e1
            · cases e1
              cases q with
              | tup q r => rw [strs_in e2 r] at q; exact ⟨_, rfl, .inr q⟩
            · obtain ⟨p, ps, rfl, h1, h2⟩ := seqW_in hr e1 q
              rw [strs_in e2 h2] at h1
              exact ⟨_, rfl, .inl h1⟩
          obtain ⟨p, rfl, z⟩ := z
          exact ⟨a, p, ys, rfl, rfl, z, hz, o.val hr (.str _)⟩
        · exact o.elim
      · exact o.elim
  · exact o.elim
def mUpper : W → List W → Heap → R
  | .str a, [], h => if a.length ≤ 5592405 then .ok (.str (Txt.upper a)) h else .bad
  | _, _, _ => .bad
theorem okm_upper : BmOk X N "str.upper" mUpper := by
  refine ⟨_, mt_upper, fun ρ h H w ws v vs Q E hr rw rws o => ?_⟩
  unfold mUpper at o
  split at o
  · split at o
    · cases rw; cases rws; exact ⟨_, rfl, rfl, by assumption, o.val hr (.str _)⟩
    · exact o.elim
  · exact o.elim
end
end Ev
set_option maxRecDepth 100000
/-! EvGlue: words for printed derivations. -/
namespace Ev
open PySem L2
theorem bt_len : bootBuiltins "len" = some (.builtin "len") := PySem.boot_len
theorem bt_max : bootBuiltins "max" = some (.builtin "max") := by decide +kernel
theorem bt_min : bootBuiltins "min" = some (.builtin "min") := by decide +kernel
theorem bt_ord : bootBuiltins "ord" = some (.builtin "ord") := by decide +kernel
theorem bt_all : bootBuiltins "all" = some (.builtin "all") := by decide +kernel
theorem bt_any : bootBuiltins "any" = some (.builtin "any") := by decide +kernel
theorem bt_repr : bootBuiltins "repr" = some (.builtin "repr") := by decide +kernel
theorem bt_isinstance : bootBuiltins "isinstance" = some (.builtin "isinstance") := by decide +kernel
theorem bt_str : bootBuiltins "str" = some (.type "str") := by decide +kernel
theorem bt_int : bootBuiltins "int" = some (.type "int") := by decide +kernel
theorem bt_list : bootBuiltins "list" = some (.type "list") := by decide +kernel
theorem bt_tuple : bootBuiltins "tuple" = some (.type "tuple") := by decide +kernel
theorem bt_dict : bootBuiltins "dict" = some (.type "dict") := by decide +kernel
theorem bt_bool : bootBuiltins "bool" = some (.type "bool") := by decide +kernel
/-- a comprehension's block, checked -/
def blkB (N : List Str) (sc scope : Scope) (own : List (Str × Nat)) : Bool :=
  (scope.kind == .function) && (scope.names.all fun y => decide (scope.names.lookup y.1 = some y.2)) && (own.all fun p => decide (N[p.2]? = some p.1)) &&
    (scope.names.all fun y => !decide (y.2 = .free) || decide (sc.names.lookup y.1 = some .cell) || decide (sc.names.lookup y.1 = some .free)) &&
    (scope.names.all fun y => !(decide (y.2 = .local) || decide (y.2 = .cell)) || decide (y.1 ∈ own.map (·.1)) || decide (y.1 ∉ N))
theorem blk_ok {N : List Str} {sc scope : Scope} {own : List (Str × Nat)} (h : blkB N sc scope own = true) : BlkOk N sc scope own := by
  unfold blkB at h
  simp only [Bool.and_eq_true, List.all_eq_true, Bool.or_eq_true, Bool.not_eq_true', decide_eq_true_eq, decide_eq_false_iff_not] at h
  obtain ⟨⟨⟨⟨h1, h2⟩, h3⟩, h4⟩, h5⟩ := h
  refine ⟨by simpa using h1, h2, h3, fun y m e => ?_, fun y m e => ?_⟩
  · rcases h4 y m with (z | z) | z
    · exact (z e).elim
    · exact .inl z
    · exact .inr z
  · rcases h5 y m with (z | z) | z
    · rcases e with e | e
      · simp [e] at z
      · simp [e] at z
    · exact .inl z
    · exact .inr z
/-- which of the given values a parameter takes -/
def pick {α : Type} (sel : List (Bool × Nat)) (us ws : List α) : List α := sel.filterMap fun p => if p.1 then ws[p.2]? else us[p.2]?
theorem pick_vrs {K : PySem.W.Frag} {ρ : List Addr} {H : Hp} {xs ys : List W} {vs zs : List V} {us ws : List Value} (r1 : VRs K ρ H xs vs) (r2 : VRs K ρ H ys zs) (q1 : Vals vs us) (q2 : Vals zs ws) : ∀ sel : List (Bool × Nat), ∃ os, VRs K ρ H (pick sel xs ys) os ∧ Vals os (pick sel us ws)
  | [] => ⟨[], .nil, .nil⟩
  | (b, i) :: sel => by
    obtain ⟨os, h1, h2⟩ := pick_vrs r1 r2 q1 q2 sel
    have one : ∀ {as : List W} {bs : List V} {cs : List Value}, VRs K ρ H as bs → Vals bs cs → (as[i]? = none ∧ cs[i]? = none) ∨ ∃ w v u, as[i]? = some w ∧ cs[i]? = some u ∧ VR K ρ H w v ∧ RelV v u := fun {as bs cs} r q => by
      cases e : as[i]? with
      | none =>
        refine .inl ⟨rfl, ?_⟩
        rw [List.getElem?_eq_none_iff] at e ⊢
        have := r.length
        have := q.length
        omega
      | some w =>
        obtain ⟨v, e1, r1⟩ := r.get e
        obtain ⟨u, e2, r2⟩ := q.get e1
        exact .inr ⟨w, v, u, rfl, e2, r1, r2⟩
    cases b with
    | false =>
      rcases one r1 q1 with ⟨e1, e2⟩ | ⟨w, v, u, e1, e2, a, c⟩
      · exact ⟨os, by simpa [pick, e1] using h1, by simpa [pick, e2] using h2⟩
      · exact ⟨v :: os, by simpa [pick, e1] using .cons a h1, by simpa [pick, e2] using .cons c h2⟩
    | true =>
      rcases one r2 q2 with ⟨e1, e2⟩ | ⟨w, v, u, e1, e2, a, c⟩
      · exact ⟨os, by simpa [pick, e1] using h1, by simpa [pick, e2] using h2⟩
      · exact ⟨v :: os, by simpa [pick, e1] using .cons a h1, by simpa [pick, e2] using .cons c h2⟩
/-- a def of the text, without defaults, and what it does -/
structure DfOk (P : Program) (w : World) (K : PySem.W.Frag) (mg : Str → Option Value) (base : PySem.Heap) (N : Nm) (k : Nat) (x : Str) (st : Stmt) (ps : List Str) (F : List W → Heap → R) : Prop where
  ex : ∃ f fd, mg x = some (.ref f) ∧ FunD K x x (defArgs st) (defBody st) (defScope st) [] [] f fd ∧ FG P w K mg base k f fd ps (LSp K N F)
theorem DfOk.mono {P : Program} {w : World} {K : PySem.W.Frag} {mg : Str → Option Value} {base : PySem.Heap} {N : Nm} {j k : Nat} {x : Str} {st : Stmt} {ps : List Str} {F : List W → Heap → R} (D : DfOk P w K mg base N j x st ps F) (h : j ≤ k) : DfOk P w K mg base N k x st ps F :=
  let ⟨f, fd, h1, h2, h3⟩ := D.ex
  ⟨f, fd, h1, h2, h3.mono h⟩
/-- how its arguments bind -/
def Bd (x : Str) (st : Stmt) (ps : List Str) (n : Nat) (ks : List Str) (sel : List (Bool × Nat)) : Prop :=
  ∀ (kV doc pm : Value) (an : Option Addr) (cdv ct : Value) (us ws : List Value), us.length = n → ws.length = ks.length → bindArgs (PySem.W.fnOf x x (defArgs st) (defBody st) (defScope st) .none kV doc pm an cdv ct) ⟨us, ks.zip ws⟩ = pure (ps.zip (pick sel us ws))
theorem FunD.kb {K : PySem.W.Frag} {x : Str} {st : Stmt} {ps : List Str} {n : Nat} {ks : List Str} {sel : List (Bool × Nat)} {f : Addr} {fd : FuncData} (F : FunD K x x (defArgs st) (defBody st) (defScope st) [] [] f fd) (h : Bd x st ps n ks sel) : KB K fd ps n ks (pick sel) := by
  obtain ⟨oc, od, dV, kV, doc, pm, an, cdv, ct, osl, rfl, lk, hcd, hd, _⟩ := F.ex
  obtain rfl : dV = .none := by
    rcases hd with ⟨_, e⟩ | ⟨e, _⟩
    · exact e
    · exact (e rfl).elim
  exact ⟨pick sel, fun s us ws _ l1 l2 => .of_eq (h _ _ _ _ _ _ us ws l1 l2), fun r1 r2 q1 q2 l1 l2 => pick_vrs r1 r2 q1 q2 sel⟩
/-- a def where it stands -/
def DfAt (K : PySem.W.Frag) (mg : Str → Option Value) (x : Str) (st : Stmt) : Prop := ∃ f fd, mg x = some (.ref f) ∧ FunD K x x (defArgs st) (defBody st) (defScope st) [] [] f fd
theorem DfOk.mk' {P : Program} {w : World} {K : PySem.W.Frag} {mg : Str → Option Value} {base : PySem.Heap} {N : Nm} {k : Nat} {x : Str} {st : Stmt} {ps Ns : List Str} {s : SS} (D : DfAt K mg x st) (S : FnScope Ns ps (defScope st)) (b : ∀ f, BodyOk P w K mg base N Ns x (defScope st) (defBody st) f k s) :
    DfOk P w K mg base N (k + 1) x st ps (fnOf ps.length Ns.length s) :=
  let ⟨f, fd, h1, h2⟩ := D
  ⟨f, fd, h1, h2, d_fn h2 S (b f)⟩
/-- what the head is asked: facts, tuples of data -/
def chkF (fa : List He.Fa) (tb : List (Str × List He.Dv)) (K : PySem.W.Frag) : Bool := (fa.all fun f => f.ok K) && tb.all fun p => He.tupB K p.1 p.2
section
open He
variable {K : PySem.W.Frag} {h : PySem.Heap} {mg : Str → Option Value} {fa : List Fa} {tb : List (Str × List Dv)} {fn : List DefD}
theorem chk_fa (c : chkF fa tb K = true) (i : Nat) {f : Fa} (h : fa[i]? = some f := by rfl) : f.ok K = true := List.all_eq_true.mp (ba c).1 f (List.mem_of_getElem? h)
theorem chk_tb (c : chkF fa tb K = true) (i : Nat) {p : Str × List Dv} (h : tb[i]? = some p := by rfl) : tupB K p.1 p.2 = true := List.all_eq_true.mp (ba c).2 p (List.mem_of_getElem? h)
def dvW : Dv → Option W
  | .non => some .non
  | .bl b => some (.bl b)
  | .int i => some (.int i)
  | .str s => some (.str s)
  | .ty t => some (.ty t)
  | _ => none
theorem dv_in {ρ : List Addr} {H : Hp} : ∀ {ds : List Dv} {ws : List W}, ds.map dvW = ws.map some → VRs K ρ H ws (ds.map (Dv.v K))
  | [], [], _ => .nil
  | [], _ :: _, e => by cases e
  | _ :: _, [], e => by cases e
  | d :: ds, w :: ws, e => by
    simp only [List.map_cons, List.cons.injEq] at e
    refine .cons ?_ (dv_in e.2)
    have e1 := e.1
    cases d <;> simp [dvW] at e1 <;> subst e1
    · exact .non
    · exact .bl _
    · exact .int _
    · exact .str _
    · exact .ty _
theorem gtup_of (X : K.In h) (G : h.Ns mainGlobals mg) {x : Str} {ds : List Dv} {ws : List W} (c : (Fa.glo x).ok K = true) (t : tupB K x ds = true) (e : ds.map dvW = ws.map some := by rfl) : ∃ a, mg x = some (.ref a) ∧ ∀ ρ H, VR K ρ H (.tup ws) (.ref a) :=
  ⟨_, glo_ok X G c, fun ρ H => .tup (tupB_ok t H) (dv_in e)⟩
theorem def_at (X : K.In h) (G : h.Ns mainGlobals mg) {x : Str} {st : Stmt} {ck : PySem.W.Frag → Bool} (c : SaysE ck fn K) (i : Nat) (g : (Fa.glo x).ok K = true) (e : fn[i]? = some ⟨(x, none), x, x, defArgs st, defBody st, defScope st, [], []⟩) : DfAt K mg x st := by
  obtain ⟨fd, F⟩ := c.def_ i e
  exact ⟨_, fd, glo_ok X G g, F⟩
end
section
variable {X : Cx} {N : Nm} {Wx : WX} {pos p : Pos} {e a b : PySem.Expr} {es : List PySem.Expr} {kws : List Keyword} {gs hs : SEs} {k n : Nat} {x : Str} {st : Stmt} {ps ks : List Str} {F : List W → Heap → R} {sel : List (Bool × Nat)} {f g : SE}
theorem rv (i : Nat) (hN : X.N[i]? = some x := by rfl) (hv : Vis X.env.scope x := by first | exact Or.inl rfl | exact Or.inr (Or.inl rfl) | exact Or.inr (Or.inr rfl)) (hd : (x == ("__debug__" : Str)) = false := by decide) (hcd : (x == ("__classdict__" : Str)) = false := by decide) : PE X (.Name x pos) (LE X.K N Wx (eVar i)) := r_var hN hv hd hcd
theorem rix (hu : X.A.units + 1 < cLine) (ha : PE X a (LE X.K N Wx f)) (hb : PE X b (LE X.K N Wx g)) (hs : PlainIx b := by exact fun _ _ => rfl) : PE X (.Subscript a b pos) (LE X.K N Wx (eBin wIx f g)) := r_ix hu ha hb hs
theorem r_calld (D : DfOk X.prog X.w X.K X.mg X.base N k x st ps F) (bd : Bd x st ps n ks sel) (hr : Room k X.A) (hgu : X.A.guards = some []) (tk : Takes X Wx) (ha : PA X (e :: es) (LA X.K N Wx gs)) (hkw : PK X kws (LA X.K N Wx hs)) (hg : Gl X x := by rfl)
    (hall : (backToKw pos (keywordEach kws X.env)).all (·.1.isSome) = true := by rfl) (hks : (backToKw pos (keywordEach kws X.env)).filterMap (·.1) = ks := by rfl)
    (hdb : (x == ("__debug__" : Str)) = false := by decide) (he : starEach (e :: es) X.env = (false, eval e X.env) :: starEach es X.env := by rfl)
    (hpl : ((backTo pos (starEach (e :: es) X.env)).any (·.1) || (backToKw pos (keywordEach kws X.env)).any (·.1.isNone)) = false := by rfl) : PE X (.Call (.Name x p) (e :: es) kws pos) (LE X.K N Wx (eCall (fun xs ys h => F (pick sel xs ys) h) n ks.length gs hs)) := by
  obtain ⟨f, fd, h1, h2, h3⟩ := D.ex
  exact r_call (cal_fn h3 hr hgu (FunD.kb h2 bd) tk) hg h1 h2.kp ha hkw hall hks hdb he hpl
theorem r_calld0 (D : DfOk X.prog X.w X.K X.mg X.base N k x st ps F) (bd : Bd x st ps 0 ks sel) (hr : Room k X.A) (hgu : X.A.guards = some []) (tk : Takes X Wx) (hkw : PK X kws (LA X.K N Wx hs)) (hg : Gl X x := by rfl)
    (hall : (backToKw pos (keywordEach kws X.env)).all (·.1.isSome) = true := by rfl) (hks : (backToKw pos (keywordEach kws X.env)).filterMap (·.1) = ks := by rfl)
    (hdb : (x == ("__debug__" : Str)) = false := by decide)
    (hpl : ((backTo pos (starEach [] X.env)).any (·.1) || (backToKw pos (keywordEach kws X.env)).any (·.1.isNone)) = false := by rfl) : PE X (.Call (.Name x p) [] kws pos) (LE X.K N Wx (eCall (fun xs ys h => F (pick sel xs ys) h) 0 ks.length aNil hs)) := by
  obtain ⟨f, fd, h1, h2, h3⟩ := D.ex
  exact r_call0 (cal_fn h3 hr hgu (FunD.kb h2 bd) tk) hg h1 h2.kp hkw hall hks hdb hpl
theorem tk0 : Takes X W0 := fun u s' h => by
  obtain ⟨_, _, _, _, _, _, _, _, _, _, _, _, _, _, _, _, z⟩ := h
  exact z.elim
theorem r_gint {i : Int} (h : ∃ t, X.mg x = some (.int i t)) (hg : Gl X x := by rfl) (hd : (x == ("__debug__" : Str)) = false := by decide) : PE X (.Name x pos) (LE X.K N Wx (eW (.int i))) := by
  obtain ⟨t, h⟩ := h
  exact r_glob (v := .int i) hg h ⟨t, rfl⟩ (fun _ _ => .int i) hd
theorem r_gstr {i : Str} (h : ∃ t, X.mg x = some (.str i t)) (hg : Gl X x := by rfl) (hd : (x == ("__debug__" : Str)) = false := by decide) : PE X (.Name x pos) (LE X.K N Wx (eW (.str i))) := by
  obtain ⟨t, h⟩ := h
  exact r_glob (v := .str i) hg h ⟨t, rfl⟩ (fun _ _ => .str i) hd
theorem r_gobj {w : W} (h : ∃ a, X.mg x = some (.ref a) ∧ ∀ ρ H, VR X.K ρ H w (.ref a)) (hg : Gl X x := by rfl) (hd : (x == ("__debug__" : Str)) = false := by decide) : PE X (.Name x pos) (LE X.K N Wx (eW w)) := by
  obtain ⟨a, h1, h2⟩ := h
  exact r_glob (v := .ref a) hg h1 rfl h2 hd
/-- a chain as a test -/
theorem t_chain {c : PySem.Expr} {o o' : CmpOp} {op op' : W → W → Heap → R} {h : SE} (ho : OpOk X N (compareOp o) op) (ho' : OpOk X N (compareOp o') op') (ha : PE X a (LE X.K N Wx f)) (hb : PE X b (LE X.K N Wx g)) (hc : PE X c (LE X.K N Wx h))
    (hm : lastMarks [o, o'] [b, c] = false := by with_unfolding_all rfl) : PT X (.Compare a [o, o'] [b, c] pos) (LT X.K N Wx (bVal (eChain op op' f g h))) := by
  obtain ⟨r, h1, h2⟩ := ho
  obtain ⟨r', h1', h2'⟩ := ho'
  exact PT.imp (pt_chain h1 h1' ha hb hc hm) fun σ H Q h => chain_in h2 h2' (val_in h)
theorem own_one {j : Nat} {l : List Nat} (h : j ∈ l := by decide) : ∀ i, (Tg.one j).has i → i ∈ l := fun i e => by
  have e : i = j := e
  rw [e]; exact h
theorem own_two {j k : Nat} {l : List Nat} (h : j ∈ l := by decide) (h' : k ∈ l := by decide) : ∀ i, (Tg.two j k).has i → i ∈ l := fun i e => by
  rcases e with e | e <;> subst e <;> assumption
end
end Ev
set_option maxRecDepth 100000
/-! EvPost: what must hold so that a semantic function ends in Q: iff by iff, for simp. -/
namespace Ev
open PySem L2
def R.to (r : R) (Q : W → Heap → Prop) (E : Nat → List (Nat × W) → Heap → Prop) : Prop := match r with
  | .ok w h => Q w h
  | .exc c fs h => E c fs h
  | .bad => False
def Rs.to (r : Rs) (Q : List W → Heap → Prop) (E : Nat → List (Nat × W) → Heap → Prop) : Prop := match r with
  | .ok w h => Q w h
  | .exc c fs h => E c fs h
  | .bad => False
def Rb.to (r : Rb) (Q : Bool → Heap → Prop) (E : Nat → List (Nat × W) → Heap → Prop) : Prop := match r with
  | .ok w h => Q w h
  | .exc c fs h => E c fs h
  | .bad => False
def Ri.to (r : Ri) (Q : List W → List (Nat × List W) → Heap → Prop) (E : Nat → List (Nat × W) → Heap → Prop) : Prop := match r with
  | .ok w g h => Q w g h
  | .exc c fs h => E c fs h
  | .bad => False
def Rp.to (r : Rp) (Q : List (W × W) → Heap → Prop) (E : Nat → List (Nat × W) → Heap → Prop) : Prop := match r with
  | .ok w h => Q w h
  | .exc c fs h => E c fs h
  | .bad => False
/-- the ends of a statement -/
structure Po where
  nx : Ls → Heap → Prop
  rt : W → Heap → Prop
  bk : Ls → Heap → Prop
  ct : Ls → Heap → Prop
  ex : Nat → List (Nat × W) → Ls → Heap → Prop
def SR.to (r : SR) (P : Po) : Prop := match r with
  | .nx ls h => P.nx ls h
  | .rt w h => P.rt w h
  | .bk ls h => P.bk ls h
  | .ct ls h => P.ct ls h
  | .exc c fs ls h => P.ex c fs ls h
  | .bad => False
section
variable {ls : Ls} {h : Heap} {Q : W → Heap → Prop} {E : Nat → List (Nat × W) → Heap → Prop} {P : Po}
theorem R.to_mono {r : R} {Q Q' : W → Heap → Prop} {E E' : Nat → List (Nat × W) → Heap → Prop} (a : r.to Q E) (q : ∀ w h, Q w h → Q' w h) (e : ∀ c fs h, E c fs h → E' c fs h) : r.to Q' E' := by
  cases r with
  | ok w h => exact q _ _ a
  | exc c fs h => exact e _ _ _ a
  | bad => exact a
theorem Rs.to_mono {r : Rs} {Q Q' : List W → Heap → Prop} {E E' : Nat → List (Nat × W) → Heap → Prop} (a : r.to Q E) (q : ∀ w h, Q w h → Q' w h) (e : ∀ c fs h, E c fs h → E' c fs h) : r.to Q' E' := by
  cases r with
  | ok w h => exact q _ _ a
  | exc c fs h => exact e _ _ _ a
  | bad => exact a
theorem SR.to_mono {r : SR} {P P' : Po} (a : r.to P) (h1 : ∀ ls h, P.nx ls h → P'.nx ls h) (h2 : ∀ ls h, P.rt ls h → P'.rt ls h) (h3 : ∀ ls h, P.bk ls h → P'.bk ls h) (h4 : ∀ ls h, P.ct ls h → P'.ct ls h) (h5 : ∀ c fs ls h, P.ex c fs ls h → P'.ex c fs ls h) : r.to P' := by
  cases r with
  | nx => exact h1 _ _ a
  | rt => exact h2 _ _ a
  | bk => exact h3 _ _ a
  | ct => exact h4 _ _ a
  | exc => exact h5 _ _ _ _ a
  | bad => exact a
@[simp] theorem to_ok {w : W} : (R.ok w h).to Q E ↔ Q w h := Iff.rfl
@[simp] theorem to_exc {c : Nat} {fs : List (Nat × W)} : (R.exc c fs h).to Q E ↔ E c fs h := Iff.rfl
@[simp] theorem to_bad : R.bad.to Q E ↔ False := Iff.rfl
@[simp] theorem tos_ok {w : List W} {Q : List W → Heap → Prop} : (Rs.ok w h).to Q E ↔ Q w h := Iff.rfl
@[simp] theorem tos_exc {c : Nat} {fs : List (Nat × W)} {Q : List W → Heap → Prop} : (Rs.exc c fs h).to Q E ↔ E c fs h := Iff.rfl
@[simp] theorem tos_bad {Q : List W → Heap → Prop} : Rs.bad.to Q E ↔ False := Iff.rfl
@[simp] theorem tob_ok {w : Bool} {Q : Bool → Heap → Prop} : (Rb.ok w h).to Q E ↔ Q w h := Iff.rfl
@[simp] theorem tob_exc {c : Nat} {fs : List (Nat × W)} {Q : Bool → Heap → Prop} : (Rb.exc c fs h).to Q E ↔ E c fs h := Iff.rfl
@[simp] theorem tob_bad {Q : Bool → Heap → Prop} : Rb.bad.to Q E ↔ False := Iff.rfl
@[simp] theorem toi_ok {w : List W} {g : List (Nat × List W)} {Q : List W → List (Nat × List W) → Heap → Prop} : (Ri.ok w g h).to Q E ↔ Q w g h := Iff.rfl
@[simp] theorem toi_exc {c : Nat} {fs : List (Nat × W)} {Q : List W → List (Nat × List W) → Heap → Prop} : (Ri.exc c fs h).to Q E ↔ E c fs h := Iff.rfl
@[simp] theorem toi_bad {Q : List W → List (Nat × List W) → Heap → Prop} : Ri.bad.to Q E ↔ False := Iff.rfl
@[simp] theorem toS_nx : (SR.nx ls h).to P ↔ P.nx ls h := Iff.rfl
@[simp] theorem toS_rt {w : W} : (SR.rt w h).to P ↔ P.rt w h := Iff.rfl
@[simp] theorem toS_bk : (SR.bk ls h).to P ↔ P.bk ls h := Iff.rfl
@[simp] theorem toS_ct : (SR.ct ls h).to P ↔ P.ct ls h := Iff.rfl
@[simp] theorem toS_exc {c : Nat} {fs : List (Nat × W)} : (SR.exc c fs ls h).to P ↔ P.ex c fs ls h := Iff.rfl
@[simp] theorem toS_bad : SR.bad.to P ↔ False := Iff.rfl
theorem to_bind {r : R} {k : W → Heap → R} : (r.bind k).to Q E ↔ r.to (fun w h => (k w h).to Q E) E := by cases r <;> rfl
theorem tos_bind {r : Rs} {k : List W → Heap → R} : (r.bind k).to Q E ↔ r.to (fun w h => (k w h).to Q E) E := by cases r <;> rfl
@[simp] theorem to_if {c : Prop} [Decidable c] {a b : R} : (if c then a else b).to Q E ↔ if c then a.to Q E else b.to Q E := by split <;> rfl
theorem to_ifb {c : Prop} [Decidable c] {a : R} : (if c then a else .bad).to Q E ↔ c ∧ a.to Q E := by split <;> simp_all
/-! ### expressions -/
@[simp] theorem x_var {i : Nat} : (eVar i ls h).to Q E ↔ ∃ w, ls[i]? = some (some w) ∧ Q w h := by
  unfold eVar
  split
  · rename_i w e; rw [to_ok]; constructor
    · intro q; exact ⟨w, e, q⟩
    · rintro ⟨w', e', q⟩; rw [e] at e'; cases e'; exact q
  · rename_i n; rw [to_bad]; constructor
    · exact False.elim
    · rintro ⟨w, e, _⟩; exact n w e
@[simp] theorem x_w {w : W} : (eW w ls h).to Q E ↔ Q w h := Iff.rfl
@[simp] theorem x_bin {op : W → W → Heap → R} {f g : SE} : (eBin op f g ls h).to Q E ↔ (f ls h).to (fun x h1 => (g ls h1).to (fun y h2 => (op x y h2).to Q E) E) E := by
  unfold eBin; rw [to_bind]; simp only [to_bind]
@[simp] theorem x_un {op : W → Heap → R} {f : SE} : (eUn op f ls h).to Q E ↔ (f ls h).to (fun x h1 => (op x h1).to Q E) E := by unfold eUn; rw [to_bind]
@[simp] theorem x_chain {op op' : W → W → Heap → R} {f g k : SE} : (eChain op op' f g k ls h).to Q E ↔ (f ls h).to (fun x h1 => (g ls h1).to (fun y h2 => (op x y h2).to (fun z h3 => ∃ b, z = .bl b ∧ ((b = true → (k ls h3).to (fun w h4 => (op' y w h4).to Q E) E) ∧ (b = false → Q (.bl false) h3))) E) E) E := by
  unfold eChain
  cases f ls h with
  | ok x h1 =>
    simp only [R.bind_ok, to_ok]
    cases g ls h1 with
    | ok y h2 =>
      simp only [R.bind_ok, to_ok]
      cases op x y h2 with
      | ok z h3 =>
        simp only [R.bind_ok, to_ok]
        cases z with
        | bl b => cases b <;> simp [to_bind]
        | _ => simp
      | exc => rfl
      | bad => rfl
    | exc => rfl
    | bad => rfl
  | exc => rfl
  | bad => rfl
@[simp] theorem x_and {f g : SE} : (eAnd f g ls h).to Q E ↔ (f ls h).to (fun x h1 => ∃ b, wTru h1 x = some b ∧ ((b = true → (g ls h1).to Q E) ∧ (b = false → Q x h1))) E := by
  unfold eAnd
  cases f ls h with
  | ok x h1 =>
    simp only [R.bind_ok, to_ok]
    cases e : wTru h1 x with
    | none => simp
    | some b => cases b <;> simp
  | exc => rfl
  | bad => rfl
@[simp] theorem x_or {f g : SE} : (eOr f g ls h).to Q E ↔ (f ls h).to (fun x h1 => ∃ b, wTru h1 x = some b ∧ ((b = true → Q x h1) ∧ (b = false → (g ls h1).to Q E))) E := by
  unfold eOr
  cases f ls h with
  | ok x h1 =>
    simp only [R.bind_ok, to_ok]
    cases e : wTru h1 x with
    | none => simp
    | some b => cases b <;> simp
  | exc => rfl
  | bad => rfl
@[simp] theorem x_not {f : SE} : (eNot f ls h).to Q E ↔ (f ls h).to (fun x h1 => ∃ b, wTru h1 x = some b ∧ Q (.bl (!b)) h1) E := by
  unfold eNot eUn
  cases f ls h with
  | ok x h1 =>
    simp only [R.bind_ok, to_ok]
    cases e : wTru h1 x with
    | none => simp
    | some b => cases b <;> simp
  | exc => rfl
  | bad => rfl
@[simp] theorem x_if {t : SB} {f g : SE} : (eIf t f g ls h).to Q E ↔ (t ls h).to (fun b h1 => (b = true → (f ls h1).to Q E) ∧ (b = false → (g ls h1).to Q E)) E := by
  unfold eIf; cases t ls h with
  | ok b h1 => cases b <;> simp
  | exc => rfl
  | bad => rfl
@[simp] theorem xs_nil {Q : List W → Heap → Prop} : (aNil ls h).to Q E ↔ Q [] h := Iff.rfl
@[simp] theorem xs_cons {f : SE} {g : SEs} {Q : List W → Heap → Prop} : (aCons f g ls h).to Q E ↔ (f ls h).to (fun x h1 => (g ls h1).to (fun xs h2 => Q (x :: xs) h2) E) E := by
  unfold aCons
  cases f ls h with
  | ok x h1 =>
    simp only [to_ok]
    cases g ls h1 <;> rfl
  | exc => rfl
  | bad => rfl
@[simp] theorem x_tup {gs : SEs} : (eTup gs ls h).to Q E ↔ (gs ls h).to (fun xs h1 => xs.length ≤ sizeLine ∧ Q (.tup xs) h1) E := by unfold eTup; rw [tos_bind]; simp only [to_ifb, to_ok]
@[simp] theorem x_lst {gs : SEs} : (eLst gs ls h).to Q E ↔ (gs ls h).to (fun xs h1 => xs.length ≤ sizeLine ∧ Q (.ref h1.nx) (h1.new (.lst xs))) E := by unfold eLst; rw [tos_bind]; simp only [to_ifb, to_ok]
@[simp] theorem x_B {op : List W → Heap → R} {gs : SEs} : (eB op gs ls h).to Q E ↔ (gs ls h).to (fun xs h1 => (op xs h1).to Q E) E := by unfold eB; rw [tos_bind]
@[simp] theorem x_Bm {T : String} {op : W → List W → Heap → R} {f : SE} {gs : SEs} : (eBm T op f gs ls h).to Q E ↔ (f ls h).to (fun x h1 => wTyp h1 x = T ∧ (gs ls h1).to (fun xs h2 => (op x xs h2).to Q E) E) E := by
  unfold eBm; rw [to_bind]; simp only [to_ifb, tos_bind]
@[simp] theorem x_call {G : List W → List W → Heap → R} {n m : Nat} {gs hs : SEs} : (eCall G n m gs hs ls h).to Q E ↔ (gs ls h).to (fun xs h1 => (hs ls h1).to (fun ys h2 => (xs.length = n ∧ ys.length = m) ∧ (G xs ys h2).to Q E) E) E := by
  unfold eCall; rw [tos_bind]; simp only [tos_bind, to_ifb]
@[simp] theorem p_nil {Q : List (W × W) → Heap → Prop} : (ePairs [] ls h).to Q E ↔ Q [] h := Iff.rfl
@[simp] theorem p_cons {f g : SE} {r : List (SE × SE)} {Q : List (W × W) → Heap → Prop} : (ePairs ((f, g) :: r) ls h).to Q E ↔ (f ls h).to (fun x h1 => (g ls h1).to (fun y h2 => (ePairs r ls h2).to (fun ps h3 => Q ((x, y) :: ps) h3) E) E) E := by
  rw [ePairs]
  cases f ls h with
  | ok x h1 =>
    simp only [to_ok]
    cases g ls h1 with
    | ok y h2 =>
      simp only [to_ok]
      cases ePairs r ls h2 <;> rfl
    | exc => rfl
    | bad => rfl
  | exc => rfl
  | bad => rfl
@[simp] theorem x_dct {ps : List (SE × SE)} : (eDct ps ls h).to Q E ↔ (ePairs ps ls h).to (fun kvs h2 => ∃ l, keysOf kvs = some l ∧ l.length ≤ 15 ∧ Q (.ref h2.nx) (h2.new (.dct (dMerge l)))) E := by
  unfold eDct
  cases ePairs ps ls h with
  | ok kvs h2 =>
    show R.to (match keysOf kvs with
      | some l => if l.length ≤ 15 then .ok (.ref h2.nx) (h2.new (.dct (dMerge l))) else .bad
      | none => .bad) Q E ↔ ∃ l, keysOf kvs = some l ∧ l.length ≤ 15 ∧ Q (.ref h2.nx) (h2.new (.dct (dMerge l)))
    cases e : keysOf kvs with
    | none => simp
    | some l => simp only [Option.some.injEq, exists_eq_left']; rw [to_ifb]; rfl
  | exc => rfl
  | bad => rfl
/-! ### tests -/
section
variable {Q : Bool → Heap → Prop}
@[simp] theorem y_val {f : SE} : (bVal f ls h).to Q E ↔ (f ls h).to (fun x h1 => ∃ b, x = .bl b ∧ Q b h1) E := by
  unfold bVal
  cases f ls h with
  | ok w h1 =>
    cases w with
    | bl b => simp only [tob_ok, to_ok]; exact ⟨fun q => ⟨b, rfl, q⟩, fun ⟨c, e, q⟩ => by cases e; exact q⟩
    | _ => simp
  | exc => rfl
  | bad => rfl
@[simp] theorem y_tru {f : SE} : (bTru f ls h).to Q E ↔ (f ls h).to (fun x h1 => ∃ b, wTru h1 x = some b ∧ Q b h1) E := by
  unfold bTru
  cases f ls h with
  | ok w h1 =>
    simp only [to_ok]
    split <;> rename_i e <;> simp [e]
  | exc => rfl
  | bad => rfl
@[simp] theorem y_and {f g : SB} : (bAnd f g ls h).to Q E ↔ (f ls h).to (fun b h1 => (b = true → (g ls h1).to Q E) ∧ (b = false → Q false h1)) E := by
  unfold bAnd
  cases f ls h with
  | ok b h1 => cases b <;> simp
  | exc => rfl
  | bad => rfl
@[simp] theorem y_or {f g : SB} : (bOr f g ls h).to Q E ↔ (f ls h).to (fun b h1 => (b = true → Q true h1) ∧ (b = false → (g ls h1).to Q E)) E := by
  unfold bOr
  cases f ls h with
  | ok b h1 => cases b <;> simp
  | exc => rfl
  | bad => rfl
@[simp] theorem y_not {f : SB} : (bNot f ls h).to Q E ↔ (f ls h).to (fun b h1 => Q (!b) h1) E := by
  unfold bNot
  cases f ls h <;> rfl
@[simp] theorem y_yes : (bYes ls h).to Q E ↔ Q true h := Iff.rfl
end
/-! ### sources -/
section
variable {Q : List W → List (Nat × List W) → Heap → Prop}
@[simp] theorem z_seq {f : SE} : (iSeq f ls h).to Q E ↔ (f ls h).to (fun x h1 => (∃ n xs, x = .ref n ∧ lstAt h1 n = some xs ∧ Q xs [(n, xs)] h1) ∨ (∃ xs, x = .tup xs ∧ Q xs [] h1) ∨ (∃ xs, x = .fl xs ∧ Q xs [] h1) ∨ ∃ s, x = .str s ∧ Q (s.cps.toList.map fun c => W.str ⟨#[c]⟩) [] h1) E := by
  unfold iSeq
  cases f ls h with
  | ok w h1 =>
    cases w with
    | ref n =>
      simp only [to_ok]
      cases e : lstAt h1 n <;> simp [e]
    | _ => simp
  | exc => rfl
  | bad => rfl
@[simp] theorem z_range1 {gs : SEs} : (iRange1 gs ls h).to Q E ↔ (gs ls h).to (fun xs h1 => ∃ j, xs = [.int j] ∧ smallR j = true ∧ Q (rangeW 0 j) [] h1) E := by
  unfold iRange1
  cases gs ls h with
  | ok xs h1 =>
    simp only [tos_ok]
    match xs with
    | [] => simp
    | [w] =>
      cases w with
      | int j =>
        simp only [List.cons.injEq, W.int.injEq, and_true, exists_eq_left']
        split <;> simp_all
      | _ => simp
    | w :: w' :: r => cases w <;> simp
  | exc => rfl
  | bad => rfl
@[simp] theorem z_range2 {gs : SEs} : (iRange2 gs ls h).to Q E ↔ (gs ls h).to (fun xs h1 => ∃ i j, xs = [.int i, .int j] ∧ (smallR i && smallR j) = true ∧ Q (rangeW i j) [] h1) E := by
  unfold iRange2
  cases gs ls h with
  | ok xs h1 =>
    simp only [tos_ok]
    match xs with
    | [] => simp
    | [w] => cases w <;> simp
    | [w, w'] =>
      cases w with
      | int i => cases w' with
        | int j =>
          simp only []
          by_cases c : (smallR i && smallR j) = true
          · rw [if_pos c]
            constructor
            · intro q; exact ⟨i, j, rfl, c, q⟩
            · rintro ⟨i', j', e, _, q⟩; cases e; exact q
          · rw [if_neg c]
            constructor
            · exact False.elim
            · rintro ⟨i', j', e, z, q⟩; cases e; exact c z
        | _ => simp
      | _ => simp
    | w :: w' :: _ :: r => cases w <;> cases w' <;> simp
  | exc => rfl
  | bad => rfl
@[simp] theorem z_enum {gs : SEs} : (iEnumW gs ls h).to Q E ↔ (gs ls h).to (fun xs h1 => (∃ n ys, xs = [.ref n] ∧ lstAt h1 n = some ys ∧ Q (enumFrom 0 ys) [(n, ys)] h1) ∨ ∃ ys, xs = [.fl ys] ∧ Q (enumFrom 0 ys) [] h1) E := by
  unfold iEnumW
  cases gs ls h with
  | ok xs h1 =>
    simp only [tos_ok]
    match xs with
    | [] => simp
    | [w] =>
      cases w with
      | ref n =>
        simp only []
        cases e : lstAt h1 n <;> simp [e]
      | _ => simp
    | w :: w' :: r => cases w <;> simp
  | exc => rfl
  | bad => rfl
end
/-! ### comprehensions -/
@[simp] theorem x_comp {vs : List Nat} {t : Tg} {src : SI} {cond : SB} {elt : SE} : (eComp vs t src cond elt ls h).to Q E ↔ (src ls h).to (fun xs g h1 => xs.length ≤ sizeLine ∧ (compL t g cond elt (wipeL ls vs) xs h1).to (fun ys h2 => Q (.ref h2.nx) (h2.new (.lst ys))) fun _ _ _ => False) E := by
  unfold eComp
  cases src ls h with
  | ok xs g h1 =>
    simp only [toi_ok]
    rw [to_ifb]
    apply and_congr Iff.rfl
    cases compL t g cond elt (wipeL ls vs) xs h1 <;> rfl
  | exc => rfl
  | bad => rfl
/-- one item -/
theorem comp_cons {t : Tg} {g : List (Nat × List W)} {cond : SB} {elt : SE} {x : W} {xs : List W} {Q : List W → Heap → Prop} : (compL t g cond elt ls (x :: xs) h).to Q (fun _ _ _ => False) ↔ gOk g h = true ∧ ∃ ls1, bindTg t x ls = some ls1 ∧ (cond ls1 h).to (fun b h2 =>
    (b = true → (elt ls1 h2).to (fun y h3 => (compL t g cond elt ls xs h3).to (fun ys h4 => Q (y :: ys) h4) fun _ _ _ => False) fun _ _ _ => False) ∧ (b = false → (compL t g cond elt ls xs h2).to Q fun _ _ _ => False)) fun _ _ _ => False := by
  rw [compL]
  by_cases hg : gOk g h = true
  · rw [if_pos hg]
    simp only [hg, true_and]
    cases bindTg t x ls with
    | none => simp
    | some ls1 =>
      simp only [Option.some.injEq, exists_eq_left']
      cases cond ls1 h with
      | ok b h2 =>
        cases b with
        | true =>
          simp only [tob_ok]
          cases elt ls1 h2 with
          | ok y h3 =>
            simp only [to_ok]
            cases compL t g cond elt ls xs h3 <;> simp
          | exc => simp
          | bad => simp
        | false => simp
      | exc => simp
      | bad => simp
  · rw [if_neg hg]; simp [hg]
theorem comp_nil {t : Tg} {g : List (Nat × List W)} {cond : SB} {elt : SE} {Q : List W → Heap → Prop} : (compL t g cond elt ls [] h).to Q (fun _ _ _ => False) ↔ gOk g h = true ∧ Q [] h := by
  rw [compL]
  by_cases hg : gOk g h = true
  · rw [if_pos hg]; simp [hg]
  · rw [if_neg hg]; simp [hg]
/-- a whole comprehension by an invariant over the items done -/
theorem comp_inv {t : Tg} {g : List (Nat × List W)} {cond : SB} {elt : SE} {Q : List W → Heap → Prop} (J : List W → List W → Heap → Prop) : ∀ (xs : List W) (acc : List W) (h : Heap), J xs acc h → (∀ x xs acc h, J (x :: xs) acc h → gOk g h = true ∧ ∃ ls1, bindTg t x ls = some ls1 ∧ (cond ls1 h).to (fun b h2 =>
    (b = true → (elt ls1 h2).to (fun y h3 => J xs (acc ++ [y]) h3) fun _ _ _ => False) ∧ (b = false → J xs acc h2)) fun _ _ _ => False) → (∀ acc h, J [] acc h → gOk g h = true ∧ Q acc h) → (compL t g cond elt ls xs h).to (fun ys h' => Q (acc ++ ys) h') fun _ _ _ => False
  | [], acc, h, j, st, fin => by rw [comp_nil]; simpa using fin acc h j
  | x :: xs, acc, h, j, st, fin => by
    rw [comp_cons]
    obtain ⟨h1, ls1, h2, h3⟩ := st x xs acc h j
    refine ⟨h1, ls1, h2, ?_⟩
    cases e : cond ls1 h with
    | ok b h4 =>
      rw [e] at h3
      refine ⟨fun hb => R.to_mono (h3.1 hb) (fun y h5 z => ?_) fun _ _ _ z => z, fun hb => comp_inv J xs acc h4 (h3.2 hb) st fin⟩
      have := comp_inv J xs (acc ++ [y]) h5 z st fin
      simpa using this
    | exc => rw [e] at h3; exact h3
    | bad => rw [e] at h3; exact h3
/-! ### statements -/
@[simp] theorem s_nil' : (sNil ls h).to P ↔ P.nx ls h := Iff.rfl
@[simp] theorem s_seq' {s t : SS} : (sSeq s t ls h).to P ↔ (s ls h).to { P with nx := fun ls1 h1 => (t ls1 h1).to P } := by
  unfold sSeq; cases s ls h <;> rfl
@[simp] theorem s_asg' {f : SE} {g : SG} : (sAsg f g ls h).to P ↔ (f ls h).to (fun w h1 => (g w ls h1).to P) fun c fs h1 => P.ex c fs ls h1 := by
  unfold sAsg; cases f ls h <;> rfl
@[simp] theorem s_gnm' {i : Nat} {w : W} : (gNm i w ls h).to P ↔ P.nx (ls.set i (some w)) h := Iff.rfl
@[simp] theorem s_gsb' {f g : SE} {w : W} : (gSb f g w ls h).to P ↔ (f ls h).to (fun x h1 => (g ls h1).to (fun y h2 => ∃ h3, wSet x y w h2 = some h3 ∧ P.nx ls h3) fun c fs h1 => P.ex c fs ls h1) fun c fs h1 => P.ex c fs ls h1 := by
  unfold gSb
  cases f ls h with
  | ok x h1 =>
    simp only [to_ok]
    cases g ls h1 with
    | ok y h2 =>
      simp only [to_ok]
      cases wSet x y w h2 <;> simp
    | exc => rfl
    | bad => rfl
  | exc => rfl
  | bad => rfl
@[simp] theorem s_gtp' {gs : List SG} {w : W} : (gTp gs w ls h).to P ↔ ∃ xs, w = .tup xs ∧ xs.length = gs.length ∧ (gEach gs xs ls h).to P := by
  cases w with
  | tup xs =>
    simp only [gTp, W.tup.injEq, exists_eq_left']
    split <;> simp_all
  | _ => simp [gTp]
@[simp] theorem s_each' {g : SG} {gs : List SG} {w : W} {ws : List W} : (gEach (g :: gs) (w :: ws) ls h).to P ↔ (g w ls h).to { P with nx := fun ls1 h1 => (gEach gs ws ls1 h1).to P } := by
  rw [gEach]; cases g w ls h <;> rfl
@[simp] theorem s_each0' : (gEach [] [] ls h).to P ↔ P.nx ls h := Iff.rfl
@[simp] theorem s_expr' {f : SE} : (sExpr f ls h).to P ↔ (f ls h).to (fun w h1 => P.nx ls h1) fun c fs h1 => P.ex c fs ls h1 := by unfold sExpr; rw [s_asg']; rfl
@[simp] theorem s_ret' {f : SE} : (sRet f ls h).to P ↔ (f ls h).to (fun w h1 => P.rt w h1) fun c fs h1 => P.ex c fs ls h1 := by unfold sRet; rw [s_asg']; rfl
@[simp] theorem s_retN' : (sRetN ls h).to P ↔ P.rt .non h := Iff.rfl
@[simp] theorem s_brk' : (sBrk ls h).to P ↔ P.bk ls h := Iff.rfl
@[simp] theorem s_cnt' : (sCnt ls h).to P ↔ P.ct ls h := Iff.rfl
@[simp] theorem s_if' {t : SB} {a b : SS} : (sIf t a b ls h).to P ↔ (t ls h).to (fun c h1 => (c = true → (a ls h1).to P) ∧ (c = false → (b ls h1).to P)) fun c fs h1 => P.ex c fs ls h1 := by
  unfold sIf
  cases t ls h with
  | ok c h1 => cases c <;> simp
  | exc => rfl
  | bad => rfl
@[simp] theorem s_par2' {i j : Nat} {gs : SEs} : (sPar2 i j gs ls h).to P ↔ (gs ls h).to (fun xs h1 => ∃ v w, xs = [v, w] ∧ P.nx ((ls.set i (some v)).set j (some w)) h1) fun c fs h1 => P.ex c fs ls h1 := by
  unfold sPar2
  cases gs ls h with
  | ok xs h1 =>
    match xs with
    | [] => simp
    | [_] => simp
    | [v, w] =>
      simp only [tos_ok, toS_nx]
      constructor
      · intro q; exact ⟨v, w, rfl, q⟩
      · rintro ⟨v', w', e, q⟩; cases e; exact q
    | _ :: _ :: _ :: _ => simp
  | exc => rfl
  | bad => rfl
@[simp] theorem s_for' {t : Tg} {src : SI} {b : SS} : (sFor t src b ls h).to P ↔ (src ls h).to (fun xs g h1 => (forL t b g xs ls h1).to P) fun c fs h1 => P.ex c fs ls h1 := by
  unfold sFor; cases src ls h <;> rfl
theorem for_nil {t : Tg} {g : List (Nat × List W)} {b : SS} : (forL t b g [] ls h).to P ↔ gOk g h = true ∧ P.nx ls h := by
  rw [forL]; split <;> simp_all
theorem for_cons {t : Tg} {g : List (Nat × List W)} {b : SS} {x : W} {xs : List W} : (forL t b g (x :: xs) ls h).to P ↔ gOk g h = true ∧ ∃ ls1, bindTg t x ls = some ls1 ∧ (b ls1 h).to { nx := fun ls2 h2 => (forL t b g xs ls2 h2).to P, ct := fun ls2 h2 => (forL t b g xs ls2 h2).to P, bk := P.nx, rt := P.rt, ex := P.ex } := by
  rw [forL]
  by_cases hg : gOk g h = true
  · rw [if_pos hg]
    cases bindTg t x ls with
    | none => simp
    | some ls1 =>
      simp only [hg, Option.some.injEq, exists_eq_left', true_and]
      cases b ls1 h <;> rfl
  · rw [if_neg hg]; simp [hg]
theorem for_inv {t : Tg} {g : List (Nat × List W)} {b : SS} (J : List W → Ls → Heap → Prop) : ∀ (xs : List W) (ls : Ls) (h : Heap), J xs ls h →
    (∀ x xs ls h, J (x :: xs) ls h → gOk g h = true ∧ ∃ ls1, bindTg t x ls = some ls1 ∧ (b ls1 h).to { nx := fun ls2 h2 => J xs ls2 h2, ct := fun ls2 h2 => J xs ls2 h2, bk := P.nx, rt := P.rt, ex := P.ex }) →
    (∀ ls h, J [] ls h → gOk g h = true ∧ P.nx ls h) → (forL t b g xs ls h).to P
  | [], ls, h, j, _, fin => by rw [for_nil]; exact fin ls h j
  | x :: xs, ls, h, j, st, fin => by
    rw [for_cons]
    obtain ⟨h1, ls1, h2, h3⟩ := st x xs ls h j
    exact ⟨h1, ls1, h2, SR.to_mono h3 (fun ls2 h4 z => for_inv J xs ls2 h4 z st fin) (fun _ _ z => z) (fun _ _ z => z) (fun ls2 h4 z => for_inv J xs ls2 h4 z st fin) fun _ _ _ _ z => z⟩
@[simp] theorem fn_to {n m : Nat} {s : SS} {ws : List W} : (fnOf n m s ws h).to Q E ↔ ws.length = n ∧ (s (ws.map some ++ List.replicate (m - n) none) h).to { nx := fun _ h' => Q .non h', rt := Q, bk := fun _ _ => False, ct := fun _ _ => False, ex := fun c fs _ h' => E c fs h' } := by
  unfold fnOf
  rw [to_ifb]
  apply and_congr Iff.rfl
  cases s (ws.map some ++ List.replicate (m - n) none) h <;> rfl
end
end Ev
set_option maxRecDepth 100000
/-! EvOpS: what must hold of the operands: iff by iff, for simp. -/
namespace Ev
open PySem L2
section
variable {h h3 : Heap} {Q : W → Heap → Prop} {E : Nat → List (Nat × W) → Heap → Prop}
@[simp] theorem o_add_int {i j : Int} : (wAdd (.int i) (.int j) h).to Q E ↔ Q (.int (i + j)) h := Iff.rfl
@[simp] theorem o_add_str {s t : Str} : (wAdd (.str s) (.str t) h).to Q E ↔ s.length + t.length ≤ sizeLine ∧ Q (.str (s ++ t)) h := by unfold wAdd; rw [to_ifb]; rfl
@[simp] theorem o_add_tup {s t : List W} : (wAdd (.tup s) (.tup t) h).to Q E ↔ s.length + t.length ≤ sizeLine ∧ Q (.tup (s ++ t)) h := by unfold wAdd; rw [to_ifb]; rfl
@[simp] theorem o_add_lst {n m : Nat} : (wAdd (.ref n) (.ref m) h).to Q E ↔ ∃ xs ys, h.get n = some (.lst xs) ∧ h.get m = some (.lst ys) ∧ xs.length + ys.length ≤ sizeLine ∧ Q (.ref h.nx) (h.new (.lst (xs ++ ys))) := by
  show R.to (match h.get n, h.get m with
    | some (.lst xs), some (.lst ys) => if xs.length + ys.length ≤ sizeLine then .ok (.ref h.nx) (h.new (.lst (xs ++ ys))) else .bad
    | _, _ => .bad) Q E ↔ _
  split
  · rename_i xs ys e1 e2
    rw [to_ifb]
    constructor
    · rintro ⟨z, q⟩; exact ⟨xs, ys, e1, e2, z, q⟩
    · rintro ⟨xs', ys', e1', e2', z, q⟩
      rw [e1] at e1'; rw [e2] at e2'; cases e1'; cases e2'; exact ⟨z, q⟩
  · rename_i n1
    constructor
    · exact False.elim
    · rintro ⟨xs, ys, e1, e2, _⟩; exact (n1 xs ys e1 e2).elim
@[simp] theorem o_sub_int {i j : Int} : (wSub (.int i) (.int j) h).to Q E ↔ Q (.int (i - j)) h := Iff.rfl
@[simp] theorem o_mul_int {i j : Int} : (wMul (.int i) (.int j) h).to Q E ↔ (smallI i = true ∨ smallI j = true) ∧ Q (.int (i * j)) h := by unfold wMul; rw [to_ifb, Bool.or_eq_true]; rfl
@[simp] theorem o_mod_int {i j : Int} : (wMod (.int i) (.int j) h).to Q E ↔ 0 < j ∧ Q (.int (i % j)) h := by unfold wMod; rw [to_ifb]; rfl
@[simp] theorem o_fdv_int {i j : Int} : (wFdv (.int i) (.int j) h).to Q E ↔ (0 < j ∧ j < 1073741824) ∧ Q (.int (i / j)) h := by unfold wFdv; rw [to_ifb]; rfl
@[simp] theorem o_pow_int {i j : Int} : (wPow (.int i) (.int j) h).to Q E ↔ (0 ≤ j ∧ j ≤ 1000000 ∧ i.natAbs < 2 ^ 64) ∧ Q (.int (i ^ j.toNat)) h := by unfold wPow; rw [to_ifb]; rfl
@[simp] theorem o_neg_int {i : Int} : (wNeg (.int i) h).to Q E ↔ Q (.int (-i)) h := Iff.rfl
@[simp] theorem o_lt_int {i j : Int} : (wLt2 (.int i) (.int j) h).to Q E ↔ Q (.bl (decide (i < j))) h := Iff.rfl
@[simp] theorem o_le_int {i j : Int} : (wLe2 (.int i) (.int j) h).to Q E ↔ Q (.bl (decide (i ≤ j))) h := Iff.rfl
@[simp] theorem o_gt_int {i j : Int} : (wGt2 (.int i) (.int j) h).to Q E ↔ Q (.bl (decide (j < i))) h := Iff.rfl
@[simp] theorem o_ge_int {i j : Int} : (wGe2 (.int i) (.int j) h).to Q E ↔ Q (.bl (decide (j ≤ i))) h := Iff.rfl
@[simp] theorem o_le_str {s t : Str} : (wLe2 (.str s) (.str t) h).to Q E ↔ Q (.bl (!decide (t.cps.toList < s.cps.toList))) h := Iff.rfl
@[simp] theorem o_lt_str {s t : Str} : (wLt2 (.str s) (.str t) h).to Q E ↔ Q (.bl (decide (s.cps.toList < t.cps.toList))) h := Iff.rfl
@[simp] theorem o_eq {x y : W} : (wEq x y h).to Q E ↔ ∃ b, eqO h x y = some b ∧ Q (.bl b) h := by
  unfold wEq; cases eqO h x y <;> simp
@[simp] theorem o_ne {x y : W} : (wNe x y h).to Q E ↔ ∃ b, eqO h x y = some b ∧ Q (.bl (!b)) h := by
  unfold wNe; cases eqO h x y <;> simp
@[simp] theorem o_in {x y : W} : (wIn x y h).to Q E ↔ ∃ b, inO h x y = some b ∧ Q (.bl b) h := by
  unfold wIn; cases inO h x y <;> simp
@[simp] theorem o_nin {x y : W} : (wNin x y h).to Q E ↔ ∃ b, inO h x y = some b ∧ Q (.bl (!b)) h := by
  unfold wNin; cases inO h x y <;> simp
@[simp] theorem o_is {x y : W} : (wIs x y h).to Q E ↔ ∃ b, isO x y = some b ∧ Q (.bl b) h := by
  unfold wIs; cases isO x y <;> simp
@[simp] theorem o_isnt {x y : W} : (wIsnt x y h).to Q E ↔ ∃ b, isO x y = some b ∧ Q (.bl (!b)) h := by
  unfold wIsnt; cases isO x y <;> simp
@[simp] theorem o_isN {x : W} : isO x .non = some (W.eqb x .non) := by cases x <;> rfl
@[simp] theorem o_isB {a b : Bool} : isO (.bl a) (.bl b) = some (decide (a = b)) := rfl
@[simp] theorem lstAt_iff {n : Nat} {xs : List W} : lstAt h n = some xs ↔ h.get n = some (.lst xs) := by
  unfold lstAt
  cases h.get n with
  | none => simp
  | some o => cases o <;> simp
@[simp] theorem o_ix_str {n : Nat} {s : Str} : (wIx (.ref n) (.str s) h).to Q E ↔ ∃ kvs w, h.get n = some (.dct kvs) ∧ dGet kvs (.inr s) = some w ∧ Q w h := by
  show R.to (match h.get n with
    | some (.dct kvs) => match keyOf (.str s) with
      | some k => match dGet kvs k with
        | some w => .ok w h
        | none => .bad
      | none => .bad
    | _ => match W.str s, lstAt h n with
      | .int i, some xs => match atI xs i with
        | some w => .ok w h
        | none => .bad
      | _, _ => .bad) Q E ↔ _
  split
  · rename_i kvs e
    simp only [keyOf, e, Option.some.injEq, Ob.dct.injEq]
    cases e2 : dGet kvs (.inr s) with
    | none => simp [e2]
    | some w => simp [e2]
  · rename_i n1
    constructor
    · exact False.elim
    · rintro ⟨kvs, w, e, _⟩; exact (n1 kvs e).elim
@[simp] theorem o_ix_int {n : Nat} {i : Int} : (wIx (.ref n) (.int i) h).to Q E ↔ (∃ xs w, h.get n = some (.lst xs) ∧ atI xs i = some w ∧ Q w h) ∨ ∃ kvs w, h.get n = some (.dct kvs) ∧ dGet kvs (.inl i) = some w ∧ Q w h := by
  show R.to (match h.get n with
    | some (.dct kvs) => match keyOf (.int i) with
      | some k => match dGet kvs k with
        | some w => .ok w h
        | none => .bad
      | none => .bad
    | _ => match W.int i, lstAt h n with
      | .int i, some xs => match atI xs i with
        | some w => .ok w h
        | none => .bad
      | _, _ => .bad) Q E ↔ _
  split
  · rename_i kvs e
    simp only [keyOf, e, Option.some.injEq, Ob.dct.injEq]
    cases e2 : dGet kvs (.inl i) with
    | none => simp [e2]
    | some w => simp [e2]
  · rename_i n1
    have aux : ∀ o : Option (List W), o = lstAt h n → (R.to (match W.int i, o with
      | .int i, some xs => match atI xs i with
        | some w => .ok w h
        | none => .bad
      | _, _ => .bad) Q E ↔ ∃ xs w, lstAt h n = some xs ∧ atI xs i = some w ∧ Q w h) := fun o eo => by
      cases o with
      | none => rw [← eo]; simp
      | some xs =>
        rw [← eo]
        cases e2 : atI xs i <;> simp [e2]
    refine (aux _ rfl).trans ?_
    simp only [lstAt_iff]
    constructor
    · exact .inl
    · rintro (z | ⟨kvs, w, e, _⟩)
      · exact z
      · exact (n1 kvs e).elim
@[simp] theorem o_ix_tup {xs : List W} {i : Int} : (wIx (.tup xs) (.int i) h).to Q E ↔ ∃ w, atI xs i = some w ∧ Q w h := by
  show R.to (match atI xs i with | some w => .ok w h | none => .bad) Q E ↔ _; split <;> rename_i e <;> simp [e]
@[simp] theorem o_ix_fl {xs : List W} {i : Int} : (wIx (.fl xs) (.int i) h).to Q E ↔ ∃ w, atI xs i = some w ∧ Q w h := by
  show R.to (match atI xs i with | some w => .ok w h | none => .bad) Q E ↔ _; split <;> rename_i e <;> simp [e]
@[simp] theorem o_ix_s {s : Str} {i : Int} : (wIx (.str s) (.int i) h).to Q E ↔ s.length ≤ sizeLine ∧ ∃ c, atI s.cps.toList i = some c ∧ Q (.str ⟨#[c]⟩) h := by
  unfold wIx; rw [to_ifb]; cases atI s.cps.toList i <;> simp
@[simp] theorem o_set_str {n : Nat} {s : Str} {w : W} : wSet (.ref n) (.str s) w h = some h3 ↔ ∃ kvs, h.get n = some (.dct kvs) ∧ kvs.length < sizeLine ∧ h.put n (.dct (dPut kvs (.inr s) w)) = h3 := by
  show (match h.get n with
    | some (.dct kvs) => match keyOf (.str s) with
      | some k => if kvs.length < sizeLine then some (h.put n (.dct (dPut kvs k w))) else none
      | none => none
    | some (.lst xs) => match W.str s with
      | .int i => match ixN xs.length i with
        | some j => some (h.put n (.lst (xs.set j w)))
        | none => none
      | _ => none
    | _ => none) = some h3 ↔ _
  split
  · rename_i kvs e
    simp [keyOf, e]
  · rename_i xs e
    simp [e]
  · rename_i n1 n2
    constructor
    · intro z; cases z
    · rintro ⟨kvs, e, _⟩; exact (n1 kvs e).elim
@[simp] theorem o_set_int {n : Nat} {i : Int} {w : W} : wSet (.ref n) (.int i) w h = some h3 ↔ (∃ xs j, h.get n = some (.lst xs) ∧ ixN xs.length i = some j ∧ h.put n (.lst (xs.set j w)) = h3) ∨ ∃ kvs, h.get n = some (.dct kvs) ∧ kvs.length < sizeLine ∧ h.put n (.dct (dPut kvs (.inl i) w)) = h3 := by
  show (match h.get n with
    | some (.dct kvs) => match keyOf (.int i) with
      | some k => if kvs.length < sizeLine then some (h.put n (.dct (dPut kvs k w))) else none
      | none => none
    | some (.lst xs) => match W.int i with
      | .int i => match ixN xs.length i with
        | some j => some (h.put n (.lst (xs.set j w)))
        | none => none
      | _ => none
    | _ => none) = some h3 ↔ _
  split
  · rename_i kvs e
    simp [keyOf, e]
  · rename_i xs e
    cases z : ixN xs.length i <;> simp [e, z]
  · rename_i n1 n2
    constructor
    · intro z; cases z
    · rintro (⟨xs, j, e, _⟩ | ⟨kvs, e, _⟩)
      · exact (n2 xs e).elim
      · exact (n1 kvs e).elim
@[simp] theorem o_len_str {s : Str} : (bLen [.str s] h).to Q E ↔ s.length ≤ sizeLine ∧ Q (.int s.length) h := by unfold bLen; rw [to_ifb]; rfl
@[simp] theorem o_len_tup {xs : List W} : (bLen [.tup xs] h).to Q E ↔ Q (.int xs.length) h := Iff.rfl
@[simp] theorem o_len_fl {xs : List W} : (bLen [.fl xs] h).to Q E ↔ Q (.int xs.length) h := Iff.rfl
@[simp] theorem o_len_ref {n : Nat} : (bLen [.ref n] h).to Q E ↔ ∃ xs, h.get n = some (.lst xs) ∧ Q (.int xs.length) h := by
  simp only [← lstAt_iff]
  show R.to (match lstAt h n with | some xs => .ok (.int xs.length) h | none => .bad) Q E ↔ _
  cases lstAt h n <;> simp
@[simp] theorem o_max {i j : Int} : (bMax2 [.int i, .int j] h).to Q E ↔ Q (.int (if j > i then j else i)) h := Iff.rfl
@[simp] theorem o_min {i j : Int} : (bMin2 [.int i, .int j] h).to Q E ↔ Q (.int (if j < i then j else i)) h := Iff.rfl
@[simp] theorem o_ord {s : Str} : (bOrd [.str s] h).to Q E ↔ s.length = 1 ∧ Q (.int (s.cps.getD 0 0 : Nat)) h := by unfold bOrd; rw [to_ifb]; rfl
@[simp] theorem o_all {w : W} : (bAll [w] h).to Q E ↔ ∃ xs bs, seqW h w = some xs ∧ blsOf xs = some bs ∧ Q (.bl (bs.all id)) h := by
  show R.to (match (seqW h w).bind blsOf with | some bs => .ok (.bl (bs.all id)) h | none => .bad) Q E ↔ _
  split
  · rename_i bs e
    obtain ⟨xs, e1, e2⟩ := Option.bind_eq_some_iff.mp e
    simp [e1, e2]
  · rename_i e
    constructor
    · exact False.elim
    · rintro ⟨xs, bs, e1, e2, _⟩
      rw [e1, Option.bind_some, e2] at e
      cases e
@[simp] theorem o_any {w : W} : (bAny [w] h).to Q E ↔ ∃ xs bs, seqW h w = some xs ∧ blsOf xs = some bs ∧ Q (.bl (bs.any id)) h := by
  show R.to (match (seqW h w).bind blsOf with | some bs => .ok (.bl (bs.any id)) h | none => .bad) Q E ↔ _
  split
  · rename_i bs e
    obtain ⟨xs, e1, e2⟩ := Option.bind_eq_some_iff.mp e
    simp [e1, e2]
  · rename_i e
    constructor
    · exact False.elim
    · rintro ⟨xs, bs, e1, e2, _⟩
      rw [e1, Option.bind_some, e2] at e
      cases e
@[simp] theorem seqW_ref {n : Nat} {xs : List W} : seqW h (.ref n) = some xs ↔ h.get n = some (.lst xs) := lstAt_iff
@[simp] theorem seqW_fl {xs ys : List W} : seqW h (.fl xs) = some ys ↔ xs = ys := by simp [seqW]
@[simp] theorem o_isi {cl : Ty → W → Option Bool} {x c : W} : (bIsi cl [x, c] h).to Q E ↔ ∃ t b, tyOf h x = some t ∧ isiO cl t c = some b ∧ Q (.bl b) h := by
  show R.to (match tyOf h x with
    | some t => match isiO cl t c with
      | some b => .ok (.bl b) h
      | none => .bad
    | none => .bad) Q E ↔ _
  split
  · rename_i t e
    split
    · rename_i b e2
      constructor
      · intro q; exact ⟨t, b, e, e2, q⟩
      · rintro ⟨t', b', a1, a2, q⟩
        rw [e] at a1; cases a1; rw [e2] at a2; cases a2; exact q
    · rename_i e2
      constructor
      · exact False.elim
      · rintro ⟨t', b', a1, a2, q⟩
        rw [e] at a1; cases a1; rw [e2] at a2; cases a2
  · rename_i e
    constructor
    · exact False.elim
    · rintro ⟨t', b', a1, a2, q⟩
      rw [e] at a1; cases a1
theorem to_iff {r : R} : r.to Q E ↔ (∃ w h, r = .ok w h ∧ Q w h) ∨ ∃ c fs h, r = .exc c fs h ∧ E c fs h := by
  cases r with
  | ok w h => exact ⟨fun q => .inl ⟨w, h, rfl, q⟩, fun z => by rcases z with ⟨_, _, e, q⟩ | ⟨_, _, _, e, _⟩ <;> cases e; exact q⟩
  | exc c fs h => exact ⟨fun q => .inr ⟨c, fs, h, rfl, q⟩, fun z => by rcases z with ⟨_, _, e, q⟩ | ⟨_, _, _, e, q⟩ <;> cases e; exact q⟩
  | bad => exact ⟨False.elim, fun z => by rcases z with ⟨_, _, e, q⟩ | ⟨_, _, _, e, q⟩ <;> cases e⟩
@[simp] theorem truBl {b : Bool} : wTru h (.bl b) = some b := rfl
theorem smallI_lit {i : Int} : smallI i = true ↔ -(2 ^ 64) < i ∧ i < 2 ^ 64 := by simp [smallI]
theorem dGet_cons {k k' : Key} {w : W} {r : List (Key × W)} : dGet ((k, w) :: r) k' = if k = k' then some w else dGet r k' := by
  unfold dGet
  by_cases e : k = k' <;> simp [e]
theorem isi_ss : isiO clNo (.b "str") (.ty "str") = some true := by decide +kernel
theorem isi_is : isiO clNo (.b "int") (.ty "str") = some false := by decide +kernel
theorem isi_bs : isiO clNo (.b "bool") (.ty "str") = some false := by decide +kernel
theorem isi_ns : isiO clNo (.b "NoneType") (.ty "str") = some false := by decide +kernel
theorem isi_ls : isiO clNo (.b "list") (.ty "str") = some false := by decide +kernel
theorem isi_ts : isiO clNo (.b "tuple") (.ty "str") = some false := by decide +kernel
theorem isi_ds : isiO clNo (.b "dict") (.ty "str") = some false := by decide +kernel
end
end Ev
set_option maxRecDepth 100000
/-! EvDraw: the laws' drawing of numbers. -/
namespace Ev
open PySem L2
/-- but for S, what stood stands -/
def Kp (S : List Nat) (h h' : Heap) : Prop := h.nx ≤ h'.nx ∧ ∀ n, n < h.nx → n ∉ S → h'.get n = h.get n
theorem Kp.refl (S : List Nat) (h : Heap) : Kp S h h := ⟨Nat.le_refl _, fun _ _ _ => rfl⟩
theorem Kp.trans {S : List Nat} {h h1 h2 : Heap} (a : Kp S h h1) (b : Kp S h1 h2) : Kp S h h2 := ⟨Nat.le_trans a.1 b.1, fun n l m => (b.2 n (Nat.lt_of_lt_of_le l a.1) m).trans (a.2 n l m)⟩
theorem Kp.mono {S S' : List Nat} {h h1 : Heap} (a : Kp S h h1) (s : ∀ n ∈ S, n ∈ S') : Kp S' h h1 := ⟨a.1, fun n l m => a.2 n l fun z => m (s n z)⟩
theorem Kp.new (S : List Nat) (h : Heap) (o : Ob) : Kp S h (h.new o) := ⟨Nat.le_succ _, fun n l _ => Heap.new_ne (Nat.ne_of_lt l)⟩
theorem Kp.put {S : List Nat} {n : Nat} (h : Heap) (o : Ob) (m : n ∈ S) : Kp S h (h.put n o) := ⟨Nat.le_refl _, fun k _ z => Heap.put_ne fun e => z (e ▸ m)⟩
/-- a draw: the dict at d, the great numbers at g -/
structure Drw (key : Str) (h : Heap) (d g : Nat) : Prop where
  dct : ∃ m t : Int, h.get d = some (.dct [(.inr key, .int m), (.inr "great", .ref g), (.inr "turn", .int t)])
  lst : ∃ gl : List Int, h.get g = some (.lst (gl.map W.int)) ∧ gl.length ≤ 63
  ld : d < h.nx
  lg : g < h.nx
  ne : d ≠ g
theorem Drw.new {key : Str} {h : Heap} {d g : Nat} (D : Drw key h d g) (o : Ob) : Drw key (h.new o) d g := by
  obtain ⟨⟨m, t, ed⟩, ⟨gl, eg, hl⟩, l1, l2, ne⟩ := D
  exact ⟨⟨m, t, by rw [Heap.new_ne (Nat.ne_of_lt l1)]; exact ed⟩, ⟨gl, by rw [Heap.new_ne (Nat.ne_of_lt l2)]; exact eg, hl⟩, Nat.lt_succ_of_lt l1, Nat.lt_succ_of_lt l2, ne⟩
theorem Drw.put {key : Str} {h : Heap} {d g : Nat} (D : Drw key h d g) {n : Nat} (o : Ob) (h1 : n ≠ d) (h2 : n ≠ g) : Drw key (h.put n o) d g := by
  obtain ⟨⟨m, t, ed⟩, ⟨gl, eg, hl⟩, l1, l2, ne⟩ := D
  exact ⟨⟨m, t, by rw [Heap.put_ne h1.symm]; exact ed⟩, ⟨gl, by rw [Heap.put_ne h2.symm]; exact eg, hl⟩, l1, l2, ne⟩
/-- what keeps all but new things keeps the draw -/
theorem Drw.kp {key : Str} {h h' : Heap} {d g : Nat} (D : Drw key h d g) (k : Kp [] h h') : Drw key h' d g := by
  obtain ⟨⟨m, t, ed⟩, ⟨gl, eg, hl⟩, l1, l2, ne⟩ := D
  exact ⟨⟨m, t, by rw [k.2 d l1 (by simp)]; exact ed⟩, ⟨gl, by rw [k.2 g l2 (by simp)]; exact eg, hl⟩, Nat.lt_of_lt_of_le l1 k.1, Nat.lt_of_lt_of_le l2 k.1, ne⟩
theorem Kp.get {S : List Nat} {h h' : Heap} (k : Kp S h h') {n : Nat} {o : Ob} (e : h.get n = some o) (l : n < h.nx) (m : n ∉ S) : h'.get n = some o := (k.2 n l m).trans e
def s_next (key : Str) (c1 c2 c3 c4 : Int) : SS := sSeq (sAsg (eTup (aCons (eBin wAdd (eBin wIx (eVar 0) (eW (.str "turn"))) (eW (.int 1))) (aCons (eBin wIx (eVar 0) (eW (.str "great"))) (aNil)))) (gTp [gSb (eVar 0) (eW (.str "turn")), gNm 2])) (sSeq (sAsg (eBin wMod (eBin wIx (eVar 0) (eW (.str "turn"))) (eB bMax2 (aCons (eW (.int 1)) (aCons (eB bLen (aCons (eVar 2) (aNil))) (aNil))))) (gNm 3)) (sSeq (sIf (bAnd (bVal (eBin wNe (eVar 2) (eLst (aNil)))) (bVal (eBin wGt2 (eBin wIx (eVar 2) (eVar 3)) (eW (.int 0))))) (sSeq (sAsg (eBin wMod (eBin wIx (eVar 2) (eVar 3)) (eVar 1)) (gNm 4)) (sSeq (sAsg (eBin wFdv (eBin wIx (eVar 2) (eVar 3)) (eVar 1)) (gSb (eVar 2) (eVar 3))) (sRet (eVar 4)))) (sNil)) (sSeq (sAsg (eBin wAdd (eBin wAdd (eBin wMul (eBin wIx (eVar 0) (eW (.str key))) (eW (.int c1))) (eBin wMul (eW (.int c2)) (eBin wIx (eVar 0) (eW (.str "turn"))))) (eW (.int 11))) (gNm 5)) (sSeq (sAsg (eBin wMod (eVar 5) (eW (.int c3))) (gSb (eVar 0) (eW (.str key)))) (sRet (eBin wMod (eBin wFdv (eBin wIx (eVar 0) (eW (.str key))) (eW (.int c4))) (eVar 1)))))))
@[irreducible] def F_next (key : Str) (c1 c2 c3 c4 : Int) : List W → Heap → R := fnOf 2 6 (s_next key c1 c2 c3 c4)
theorem eq_nil {h : Heap} {n m : Nat} {xs : List W} (e1 : h.get n = some (.lst xs)) (e2 : h.get m = some (.lst [])) : eqO h (.ref n) (.ref m) = some xs.isEmpty := by
  have l1 := lstAt_iff.mpr e1
  have l2 := lstAt_iff.mpr e2
  simp only [eqO, seqW, l1, l2]
  cases xs with
  | nil =>
    simp only [List.length_nil, if_true, dataEq, toD, l1, l2, allO, Option.map_some]
    rfl
  | cons x xs => simp
@[simp] theorem eqO_int {h : Heap} {i j : Int} : eqO h (.int i) (.int j) = some (i == j) := by
  show (if (true && true) = true then some (PyData.eqv (.int i) (.int j)) else none) = _
  simp [PyData.eqv]
theorem eqO_str {h : Heap} {s t : Str} (h1 : PyData.strOk s = true) (h2 : PyData.strOk t = true) : eqO h (.str s) (.str t) = some (s == t) := by
  show (if (SeqAt.shaped (.str s) && SeqAt.shaped (.str t)) = true then some (PyData.eqv (.str s) (.str t)) else none) = _
  have e : ∀ x, PyData.strOk x = true → SeqAt.shaped (.str x) = true := fun x hx => by simp [SeqAt.shaped, PyData.canLay0, PyData.depth, hx]
  rw [e s h1, e t h2]
  simp [PyData.eqv]
theorem atI_lt {α : Type} {xs : List α} {i : Int} (h0 : 0 ≤ i) (h1 : i < xs.length) : ∃ x, atI xs i = some x ∧ x ∈ xs := by
  unfold atI ixN
  rw [if_pos h0, if_pos h1]
  have : i.toNat < xs.length := by omega
  exact ⟨xs[i.toNat], by simp [this], List.getElem_mem this⟩
theorem atI_map {α β : Type} {f : α → β} {xs : List α} {i : Int} {x : α} (h : atI xs i = some x) : atI (xs.map f) i = some (f x) := by
  unfold atI at h ⊢
  obtain ⟨j, e1, e2⟩ := Option.bind_eq_some_iff.mp h
  rw [List.length_map, e1]
  simp [e2]
theorem s_gt : (("great" : Str) = ("turn" : Str)) = False := by decide
theorem s_tg : (("turn" : Str) = ("great" : Str)) = False := by decide
theorem next_to {key : Str} {c1 c2 c3 c4 : Int} {h : Heap} {d g : Nat} {b : Int} {Q : W → Heap → Prop} {E : Nat → List (Nat × W) → Heap → Prop} (D : Drw key h d g) (hb : 0 < b) (hb2 : b < 1073741824)
    (hk : key ≠ "great" := by decide) (hk2 : key ≠ "turn" := by decide) (k1 : smallI c1 = true := by decide) (k2 : smallI c2 = true := by decide) (k3 : 0 < c3 := by decide) (k4 : 0 < c4 ∧ c4 < 1073741824 := by decide)
    (q : ∀ r h', 0 ≤ r → r < b → Drw key h' d g → Kp [d, g] h h' → Q (.int r) h') : (F_next key c1 c2 c3 c4 [.ref d, .int b] h).to Q E := by
  obtain ⟨⟨m, t, ed⟩, ⟨gl, eg, hl⟩, ld, lg, ne⟩ := D
  have hd := Nat.ne_of_lt ld
  have hg := Nat.ne_of_lt lg
  have ne2 := ne.symm
  have e0 : ∀ (h' : Heap) (m : Nat), h'.get g = some (.lst (gl.map W.int)) → h'.get m = some (.lst []) → eqO h' (.ref g) (.ref m) = some (gl.map W.int).isEmpty := fun h' m => eq_nil
  have z2 : 2 ≤ sizeLine := by rw [sizeLine_eq]; decide
  have z3 : 3 < sizeLine := by rw [sizeLine_eq]; decide
  unfold F_next s_next
  have hkk := hk.symm
  have hkk2 := hk2.symm
  obtain ⟨k4a, k4b⟩ := k4
  have pos : 0 < (if 1 < (gl.length : Int) then (gl.length : Int) else 1) := by split <;> omega
  have low : ∀ x y : Int, 0 ≤ x / y % b ∧ x / y % b < b := fun x y => ⟨Int.emod_nonneg _ (by omega), Int.emod_lt_of_pos _ hb⟩
  by_cases hgl : gl = []
  · subst hgl
    simp [ed, eg, dGet_cons, dPut, hk, hk2, hkk, hkk2, Heap.new_get, Heap.put_get, ne, ne2, hd, hg, s_gt, s_tg, e0, z2, z3, k1, k2, k3, k4a, k4b, hb, hb2]
    refine q _ _ (low _ _).1 (low _ _).2 ⟨⟨_, t + 1, by simp [Heap.put_get]; rfl⟩, ⟨[], by simp [Heap.put_get, Heap.new_get, ne2, hg, eg], by simp⟩, by simp; omega, by simp; omega, ne⟩ ?_
    exact (((Kp.put h _ (by simp)).trans (Kp.new _ _ _)).trans (Kp.put _ _ (by simp)))
  · have hn : gl.length ≠ 0 := by simpa using hgl
    have he : (if 1 < (gl.length : Int) then (gl.length : Int) else 1) = gl.length := by split <;> omega
    obtain ⟨v, ev, _⟩ := atI_lt (xs := gl) (i := (t + 1) % gl.length) (Int.emod_nonneg _ (by omega)) (Int.emod_lt_of_pos _ (by omega))
    have ev' := atI_map (f := W.int) ev
    obtain ⟨j, ej, ej2⟩ : ∃ j, ixN gl.length ((t + 1) % gl.length) = some j ∧ gl[j]? = some v := Option.bind_eq_some_iff.mp ev
    by_cases hv : 0 < v
    · simp [ed, eg, dGet_cons, dPut, hk, hk2, hkk, hkk2, Heap.new_get, Heap.put_get, ne, ne2, hd, hg, s_gt, s_tg, e0, z2, z3, k1, k2, k3, k4a, k4b, hb, hb2, he, ev', hgl, hv, ej, pos]
      refine ⟨by omega, q _ _ (Int.emod_nonneg _ (by omega)) (Int.emod_lt_of_pos _ hb) ⟨⟨m, t + 1, by simp [Heap.put_get, Heap.new_get, ne, hd]⟩, ⟨gl.set j (v / b), by simp [Heap.put_get], by simpa using hl⟩, by simp; omega, by simp; omega, ne⟩ ?_⟩
      exact (((Kp.put h _ (by simp)).trans (Kp.new _ _ _)).trans (Kp.put _ _ (by simp)))
    · simp [ed, eg, dGet_cons, dPut, hk, hk2, hkk, hkk2, Heap.new_get, Heap.put_get, ne, ne2, hd, hg, s_gt, s_tg, e0, z2, z3, k1, k2, k3, k4a, k4b, hb, hb2, he, ev', hgl, hv, ej, pos]
      refine ⟨by omega, q _ _ (low _ _).1 (low _ _).2 ⟨⟨_, t + 1, by simp [Heap.put_get]; rfl⟩, ⟨gl, by simp [Heap.put_get, Heap.new_get, ne2, hg, eg], hl⟩, by simp; omega, by simp; omega, ne⟩ ?_⟩
      exact (((Kp.put h _ (by simp)).trans (Kp.new _ _ _)).trans (Kp.put _ _ (by simp)))
/-- the start of a draw -/
def s_begun (key : Str) (c1 c2 c3 c4 c5 : Int) : SS := sSeq (sAsg (eBin wAdd (eW (.int c1)) (eBin wMul (eW (.int c2)) (eB bLen (aCons (eVar 0) (aNil))))) (gNm 1)) (sSeq (sFor (.two 2 3) (iEnumW (aCons (eVar 0) (aNil))) (sAsg (eBin wMod (eBin wAdd (eBin wAdd (eBin wMul (eVar 1) (eW (.int c3))) (eVar 3)) (eBin wMul (eW (.int c4)) (eVar 2))) (eW (.int c5))) (gNm 1))) (sRet (eDct ((eW (.str key), eVar 1) :: (eW (.str "great"), eComp [3] (.one 3) (iSeq (eVar 0)) (bVal (eBin wGe2 (eVar 3) (eBin wPow (eW (.int 10)) (eW (.int 18))))) (eVar 3)) :: (eW (.str "turn"), eW (.int 0)) :: []))))
@[irreducible] def F_begun (key : Str) (c1 c2 c3 c4 c5 : Int) : List W → Heap → R := fnOf 1 4 (s_begun key c1 c2 c3 c4 c5)
theorem begun_to {key : Str} {c1 c2 c3 c4 c5 : Int} {h : Heap} {ns : List Int} {Q : W → Heap → Prop} {E : Nat → List (Nat × W) → Heap → Prop} (hl : ns.length ≤ 63)
    (hk : key ≠ "great" := by decide) (hk2 : key ≠ "turn" := by decide) (k1 : smallI c2 = true := by decide) (k2 : smallI c3 = true := by decide) (k3 : smallI c4 = true := by decide) (k4 : 0 < c5 := by decide)
    (q : ∀ d g h', Drw key h' d g → Kp [] h h' → h.nx ≤ d → h.nx ≤ g → Q (.ref d) h') : (F_begun key c1 c2 c3 c4 c5 [scriptW ns] h).to Q E := by
  unfold F_begun s_begun scriptW
  have hz : ns.length ≤ sizeLine := by rw [sizeLine_eq]; omega
  simp [k1, hz]
  refine for_inv (fun xs ls h' => h' = h ∧ (∀ x ∈ xs, ∃ i j, x = W.tup [.int i, .int j]) ∧ ∃ m a b, ls = [some (.fl (ns.map W.int)), some (.int m), a, b]) _ _ _ ⟨rfl, ?_, _, _, _, rfl⟩ ?_ ?_
  · have : ∀ (l : List Int) (k : Nat), ∀ x ∈ enumFrom k (l.map W.int), ∃ i j, x = W.tup [.int i, .int j] := by
      intro l
      induction l with
      | nil => intro k x m; simp [enumFrom] at m
      | cons a l ih =>
        intro k x m
        simp only [List.map_cons, enumFrom, List.mem_cons] at m
        rcases m with rfl | m
        · exact ⟨_, _, rfl⟩
        · exact ih _ x m
    exact this ns 0
  · rintro x xs ls _ ⟨rfl, hx, m, a, b, rfl⟩
    obtain ⟨i, j, rfl⟩ := hx x (by simp)
    refine ⟨rfl, _, rfl, ?_⟩
    simp [k1, k2, k3, k4]
    exact fun x m => hx x (by simp [m])
  · rintro ls h ⟨rfl, _, m, a, b, rfl⟩
    refine ⟨rfl, ?_⟩
    simp [hz]
    have sp : smallI 10 = true := by decide
    have key_comp := comp_inv (t := .one 3) (g := []) (ls := wipeL [some (.fl (ns.map W.int)), some (.int m), a, b] [3]) (cond := bVal (eBin wGe2 (eVar 3) (eBin wPow (eW (W.int 10)) (eW (W.int 18))))) (elt := eVar 3)
      (Q := fun acc h' => h' = h ∧ ∃ gl : List Int, acc = gl.map W.int ∧ gl.length ≤ 63)
      (fun xs acc h' => h' = h ∧ (∀ x ∈ xs, ∃ i, x = W.int i) ∧ ∃ gl : List Int, acc = gl.map W.int ∧ gl.length + xs.length ≤ 63) (ns.map W.int) [] h ⟨rfl, by simp, [], rfl, by simpa using hl⟩ ?_ ?_
    · refine Rs.to_mono key_comp ?_ fun _ _ _ z => z
      rintro w h' ⟨rfl, gl, e, hgl⟩
      simp only [List.nil_append] at e
      subst e
      simp [keysOf, keyOf, dMerge, dPut, hk, hk2, hk.symm, hk2.symm, s_gt, s_tg]
      refine q _ h'.nx _ ⟨⟨m, 0, by simp [Heap.new_get]⟩, ⟨gl, by simp [Heap.new_get], hgl⟩, by simp, by simp; omega, by simp⟩ ((Kp.new _ _ _).trans (Kp.new _ _ _)) (by simp) (Nat.le_refl _)
    · rintro x xs acc _ ⟨rfl, hx, gl, rfl, hgl⟩
      obtain ⟨i, rfl⟩ := hx x (by simp)
      refine ⟨rfl, _, rfl, ?_⟩
      simp [wipeL]
      simp only [List.length_cons] at hgl
      by_cases c : 1000000000000000000 ≤ i
      · exact .inr ⟨c, fun x m => hx x (List.mem_cons_of_mem _ m), gl ++ [i], by simp, by simp; omega⟩
      · exact .inl ⟨by omega, fun x m => hx x (List.mem_cons_of_mem _ m), gl, rfl, by omega⟩
    · rintro acc _ ⟨rfl, _, gl, rfl, hgl⟩
      exact ⟨rfl, rfl, gl, rfl, by simpa using hgl⟩
/-- a comprehension that leaves the heap as it is -/
theorem comp_pure {t : Tg} {g : List (Nat × List W)} {cond : SB} {elt : SE} {ls : Ls} {h : Heap} {Q : List W → Heap → Prop} (b : W → Bool) (e : W → W) (hg : gOk g h = true) : ∀ xs : List W, (∀ x ∈ xs, ∃ ls1, bindTg t x ls = some ls1 ∧ (cond ls1 h).to (fun c h1 => (c = b x ∧ h1 = h) ∧ (b x = true → (elt ls1 h).to (fun y h2 => y = e x ∧ h2 = h) fun _ _ _ => False)) fun _ _ _ => False) →
    Q ((xs.filter b).map e) h → (compL t g cond elt ls xs h).to Q fun _ _ _ => False := by
  intro xs hx q
  have := comp_inv (Q := fun ys h' => ys = (xs.filter b).map e ∧ h' = h) (t := t) (g := g) (cond := cond) (elt := elt) (ls := ls) (fun r acc h' => h' = h ∧ (∀ x ∈ r, x ∈ xs) ∧ acc ++ (r.filter b).map e = (xs.filter b).map e) xs [] h ⟨rfl, fun _ m => m, rfl⟩ ?_ ?_
  · refine Rs.to_mono this ?_ fun _ _ _ z => z
    rintro ys h' ⟨e1, rfl⟩
    simp only [List.nil_append] at e1
    rw [e1]; exact q
  · rintro x r acc h1 ⟨rfl, m, ea⟩
    obtain ⟨ls1, e1, e2⟩ := hx x (m x (by simp))
    refine ⟨hg, ls1, e1, ?_⟩
    cases ec : cond ls1 h1 with
    | ok c h2 =>
      rw [ec] at e2
      obtain ⟨⟨rfl, rfl⟩, e3⟩ := e2
      refine ⟨fun hb => R.to_mono (e3 hb) ?_ fun _ _ _ z => z, fun hb => ⟨rfl, fun x k => m x (List.mem_cons_of_mem _ k), ?_⟩⟩
      · rintro y h3 ⟨rfl, rfl⟩
        refine ⟨rfl, fun x k => m x (List.mem_cons_of_mem _ k), ?_⟩
        rw [← ea, List.filter_cons_of_pos hb]; simp
      · rw [← ea, List.filter_cons_of_neg (by simp [hb])]
    | exc => rw [ec] at e2; exact e2
    | bad => rw [ec] at e2; exact e2
  · rintro acc h1 ⟨rfl, _, ea⟩
    exact ⟨hg, by simpa using ea, rfl⟩
end Ev
set_option maxRecDepth 100000
/-! EvInst: instances of classes without an __eq__ of their own: == , in. -/
namespace Ev
open PySem L2
/-- no __eq__ of its own -/
structure IdC (K : PySem.W.Frag) (C : Addr) : Prop where
  mro : PySem.W.mroIn K C (.type "object") = some true
  eq : PySem.W.findIn K (.ref C) "__eq__" = some (some (.builtin "object.__eq__"))
  ne : PySem.W.findIn K (.ref C) "__ne__" = some (some (.builtin "object.__ne__"))
section
open PySem.Spec PyProof.Rows PySem.SeqAt
variable {M : Model} {prog : Program} {w : World} {A : Around} {E : Value → Shared → Prop} {s : Shared} {K : PySem.W.Frag} {x y C : Addr} {ox oy : Obj} {od od' : Option Obj}
theorem inst_notT (I : PySem.W.InstAt s.heap x ox C od) : ox.cls ≠ .type "tuple" := by rw [I.cls]; intro z; cases z
theorem call_eqS (X : K.In s.heap) (I : PySem.W.InstAt s.heap x ox C od) (k : IdC K C) {Q : Value → Shared → Prop} (hq : Q (.bool true) s) : wpAny (model prog w) A (call (.builtin "object.__eq__") [.ref x, .ref x]) Q E s :=
  wpAny_call (codeAny_call_builtin F.cmp_object.eq.plain F.cmpEntry_eq (PySem.W.check_slot F.cmpKind_eq F.cmpSplit_eq (I.type.andThen (PySem.W.looks_mroIn X k.mro)) (F.cmpArgs_eq _ _) (objEq_entry_same hq)))
theorem call_eqO (X : K.In s.heap) (I : PySem.W.InstAt s.heap x ox C od) (J : PySem.W.InstAt s.heap y oy C od') (ne : x ≠ y) (k : IdC K C) {Q : Value → Shared → Prop} (hq : Q .notImplemented s) : wpAny (model prog w) A (call (.builtin "object.__eq__") [.ref x, .ref y]) Q E s :=
  wpAny_call (codeAny_call_builtin F.cmp_object.eq.plain F.cmpEntry_eq (PySem.W.check_slot F.cmpKind_eq F.cmpSplit_eq (I.type.andThen (PySem.W.looks_mroIn X k.mro)) (F.cmpArgs_eq _ _) (objEq_entry_other ne I.at_ J.at_ (inst_notT I) hq)))
theorem tryS (X : K.In s.heap) (I : PySem.W.InstAt s.heap x ox C od) (k : IdC K C) {Q : Option Value → Shared → Prop} (hq : Q (some (.bool true)) s) : wpAny (model prog w) A (tryCompare (.ref x) "__eq__" (.ref x)) Q E s := by
  unfold tryCompare
  exact wpAny_bind (HN.ifBound_objEq X I k.eq (call_eqS X I k (wpAny_pure hq)))
theorem tryO (X : K.In s.heap) (I : PySem.W.InstAt s.heap x ox C od) (J : PySem.W.InstAt s.heap y oy C od') (ne : x ≠ y) (k : IdC K C) {Q : Option Value → Shared → Prop} (hq : Q none s) : wpAny (model prog w) A (tryCompare (.ref x) "__eq__" (.ref y)) Q E s := by
  unfold tryCompare
  exact wpAny_bind (HN.ifBound_objEq X I k.eq (call_eqO X I J ne k (wpAny_pure hq)))
theorem rc_ins (hu : A.units < cLine) (X : K.In s.heap) (I : PySem.W.InstAt s.heap x ox C od) (J : PySem.W.InstAt s.heap y oy C od') (k : IdC K C) : RcAt A s (.ref x) (.ref y) (decide (x = y)) := fun prog w E Q h => by
  simp only [richCompare, cmpInfo_Eq, oneThing_ref]
  refine wpAny_holding (wpAny_bind (wpAny_cRoomFor hu ?_))
  refine wpAny_bind (I.type.here (wpAny_bind (J.type.here ?_)))
  simp only [bne_self_eq_false, Bool.false_eq_true, if_false, Bool.not_false, if_true]
  refine wpAny_bind (wpAny_pure ?_)
  by_cases e : x = y
  · subst e
    refine wpAny_bind (m := tryCompare (.ref x) _ (.ref x)) (tryS X I k ?_)
    simp at h
    exact wpAny_pure h
  · refine wpAny_bind (m := tryCompare (.ref x) _ (.ref y)) (tryO X I J e k ?_)
    refine wpAny_bind (m := tryCompare (.ref y) _ (.ref x)) (tryO X J I (fun z => e z.symm) k ?_)
    simp [e] at h
    exact wpAny_bind (wpAny_rule (wpAny_bind (SeqAt.wpAny_isSame_ref_other' e I.at_ J.at_ (inst_notT J) (wpAny_pure h))))
theorem eq_ins (hu : A.units < cLine) (X : K.In s.heap) (I : PySem.W.InstAt s.heap x ox C od) (J : PySem.W.InstAt s.heap y oy C od') (k : IdC K C) : EqAt A s (.ref x) (.ref y) (decide (x = y)) := by
  by_cases e : x = y
  · subst e
    simpa using EqAt.same (A := A) (s := s) (.ref x)
  · exact EqAt.of_refs e (rc_ins hu X I J k)
theorem spS (X : K.In s.heap) (I : PySem.W.InstAt s.heap x ox C od) (k : IdC K C) {Q : Option Value → Shared → Prop} (hq : Q (some (.bool true)) s) : wpAny (model prog w) A (callSpecialIfBound? (.ref x) "__eq__" [.ref x]) Q E s := HN.ifBound_objEq X I k.eq (call_eqS X I k hq)
theorem spO (X : K.In s.heap) (I : PySem.W.InstAt s.heap x ox C od) (J : PySem.W.InstAt s.heap y oy C od') (ne : x ≠ y) (k : IdC K C) {Q : Option Value → Shared → Prop} (hq : Q (some .notImplemented) s) : wpAny (model prog w) A (callSpecialIfBound? (.ref x) "__eq__" [.ref y]) Q E s := HN.ifBound_objEq X I k.eq (call_eqO X I J ne k hq)
theorem entry_neS (hu : A.units < cLine) (X : K.In s.heap) (I : PySem.W.InstAt s.heap x ox C od) (k : IdC K C) {Q : Fin → Shared → Prop} (hq : Q (.done (.ret (.bool false))) s) : wpAny (model prog w) A (Builtin.«object.__ne__» ⟨[.ref x, .ref x], []⟩) Q E s := by
  unfold Builtin.«object.__ne__»
  repeat (first | with_reducible refine wpAny_cRoomFor hu ?_ | with_reducible refine spS X I k ?_ | wp_step)
  exact hq
theorem entry_neO (hu : A.units < cLine) (X : K.In s.heap) (I : PySem.W.InstAt s.heap x ox C od) (J : PySem.W.InstAt s.heap y oy C od') (ne : x ≠ y) (k : IdC K C) {Q : Fin → Shared → Prop} (hq : Q (.done (.ret .notImplemented)) s) : wpAny (model prog w) A (Builtin.«object.__ne__» ⟨[.ref x, .ref y], []⟩) Q E s := by
  unfold Builtin.«object.__ne__»
  repeat (first | with_reducible refine wpAny_cRoomFor hu ?_ | with_reducible refine spO X I J ne k ?_ | wp_step)
  exact hq
theorem ifBound_objNe {args : List Value} {Q : Option Value → Shared → Prop} (X : K.In s.heap) (I : PySem.W.InstAt s.heap x ox C od) (hs : PySem.W.findIn K (.ref C) "__ne__" = some (some (.builtin "object.__ne__")))
    (h : wpAny M A (call (.builtin "object.__ne__") (.ref x :: args)) (fun v => Q (some v)) E s) : wpAny M A (callSpecialIfBound? (.ref x) "__ne__" args) Q E s := by
  simp only [callSpecialIfBound?, bindSpecialIfBound?]
  refine wpAny_holding (wpAny_bind (wpAny_bind (wpAny_bind (I.type.here ((PySem.W.looks_findIn X hs).here (wpAny_bind (wpAny_askSetting (wpAny_ite ?_))))))))
  have fin : wpAny M A (call (.builtin "object.__ne__") ([.ref x] ++ args) >>= fun v => pure (some v)) Q E s := wpAny_bind (wpAny_mono h (fun v s' z => wpAny_pure z) fun _ _ z => z)
  split
  · exact wpAny_bind (wpAny_of_eq (F.cmp_object.ne.bind _) (wpAny_pure (by exact fin)))
  · exact wpAny_tryCatch (wpAny_bind (wpAny_of_eq (F.cmp_object.ne.bind _) (wpAny_pure (by exact fin))))
theorem tryNS (hu : A.units + 1 < cLine) (X : K.In s.heap) (I : PySem.W.InstAt s.heap x ox C od) (k : IdC K C) {Q : Option Value → Shared → Prop} (hq : Q (some (.bool false)) s) : wpAny (model prog w) A (tryCompare (.ref x) "__ne__" (.ref x)) Q E s := by
  unfold tryCompare
  refine wpAny_bind (ifBound_objNe X I k.ne (wpAny_call (codeAny_call_builtin F.cmp_object.ne.plain F.cmpEntry_ne (PySem.W.check_slot F.cmpKind_ne F.cmpSplit_ne (I.type.andThen (PySem.W.looks_mroIn X k.mro)) (F.cmpArgs_ne _ _) (entry_neS (by exact hu) X I k (wpAny_pure hq))))))
theorem tryNO (hu : A.units + 1 < cLine) (X : K.In s.heap) (I : PySem.W.InstAt s.heap x ox C od) (J : PySem.W.InstAt s.heap y oy C od') (ne : x ≠ y) (k : IdC K C) {Q : Option Value → Shared → Prop} (hq : Q none s) : wpAny (model prog w) A (tryCompare (.ref x) "__ne__" (.ref y)) Q E s := by
  unfold tryCompare
  refine wpAny_bind (ifBound_objNe X I k.ne (wpAny_call (codeAny_call_builtin F.cmp_object.ne.plain F.cmpEntry_ne (PySem.W.check_slot F.cmpKind_ne F.cmpSplit_ne (I.type.andThen (PySem.W.looks_mroIn X k.mro)) (F.cmpArgs_ne _ _) (entry_neO (by exact hu) X I J ne k (wpAny_pure hq))))))
theorem rcn_ins (hu : A.units + 1 < cLine) (X : K.In s.heap) (I : PySem.W.InstAt s.heap x ox C od) (J : PySem.W.InstAt s.heap y oy C od') (k : IdC K C) : RcNeAt A s (.ref x) (.ref y) (!decide (x = y)) := fun prog w E Q h => by
  simp only [richCompare, cmpInfo_NotEq, oneThing_ref]
  refine wpAny_holding (wpAny_bind (wpAny_cRoomFor (by omega) ?_))
  refine wpAny_bind (I.type.here (wpAny_bind (J.type.here ?_)))
  simp only [bne_self_eq_false, Bool.false_eq_true, if_false, Bool.not_false, if_true]
  refine wpAny_bind (wpAny_pure ?_)
  by_cases e : x = y
  · subst e
    refine wpAny_bind (m := tryCompare (.ref x) _ (.ref x)) (tryNS hu X I k ?_)
    simp at h
    exact wpAny_pure h
  · refine wpAny_bind (m := tryCompare (.ref x) _ (.ref y)) (tryNO hu X I J e k ?_)
    refine wpAny_bind (m := tryCompare (.ref y) _ (.ref x)) (tryNO hu X J I (fun z => e z.symm) k ?_)
    simp [e] at h
    exact wpAny_bind (wpAny_rule (wpAny_bind (SeqAt.wpAny_isSame_ref_other' e I.at_ J.at_ (inst_notT J) (wpAny_pure h))))
end

/-- the instances x, y are one -/
def rIdc (K : PySem.W.Frag) (neg : Bool) : R2 := fun x y H Q => ∃ a b C dx dy fs gs, x = V.ref a ∧ y = V.ref b ∧ H a = some (.ins C dx fs) ∧ H b = some (.ins C dy gs) ∧ IdC K C ∧ Q (.bl (if neg then !decide (a = b) else decide (a = b))) H
def rInIdc (K : PySem.W.Frag) (neg : Bool) : R2 := fun x y H Q => ∃ a p C dx fs, ∃ bs : List Addr, x = V.ref a ∧ y = V.ref p ∧ H a = some (.ins C dx fs) ∧ IdC K C ∧ SqL K H p (bs.map V.ref) ∧ (∀ b ∈ bs, ∃ dy gs, H b = some (.ins C dy gs)) ∧ Q (.bl (if neg then !decide (a ∈ bs) else decide (a ∈ bs))) H
section
variable {X : Cx} {N : Nm}
theorem op_eqIdc (hu : X.A.units + 64 < cLine) : OpR X (compareOp .Eq) (rIdc X.K false) := by
  intro pins s σ H x y v u Q I rx ry h
  obtain ⟨a, b, C, dx, dy, fs, gs, rfl, rfl, h1, h2, k, q⟩ := h
  cases (show v = Value.ref a from rx)
  cases (show u = Value.ref b from ry)
  obtain ⟨_, O1, _⟩ := ins_get I.hok h1
  obtain ⟨_, J1, _⟩ := O1.look
  obtain ⟨_, O2, _⟩ := ins_get I.hok h2
  obtain ⟨_, J2, _⟩ := O2.look
  exact rc_ins (by omega) I.kIn J1 J2 k X.prog X.w _ _ ⟨.bl _, H, I, rfl, q⟩
theorem op_neIdc (hu : X.A.units + 64 < cLine) : OpR X (compareOp .NotEq) (rIdc X.K true) := by
  intro pins s σ H x y v u Q I rx ry h
  obtain ⟨a, b, C, dx, dy, fs, gs, rfl, rfl, h1, h2, k, q⟩ := h
  cases (show v = Value.ref a from rx)
  cases (show u = Value.ref b from ry)
  obtain ⟨_, O1, _⟩ := ins_get I.hok h1
  obtain ⟨_, J1, _⟩ := O1.look
  obtain ⟨_, O2, _⟩ := ins_get I.hok h2
  obtain ⟨_, J2, _⟩ := O2.look
  exact rcn_ins (by omega) I.kIn J1 J2 k X.prog X.w _ _ ⟨.bl _, H, I, rfl, q⟩
theorem vals_refs : ∀ {bs : List Addr} {us : List Value}, Vals (bs.map V.ref) us → us = bs.map Value.ref
  | [], us, h => by cases h; rfl
  | b :: bs, us, h => by
    cases h with
    | cons r t => cases (show _ = Value.ref b from r); rw [vals_refs t]; rfl
def isRef (a : Addr) : Value → Bool
  | .ref b => decide (b = a)
  | _ => false
theorem any_ref (a : Addr) : ∀ bs : List Addr, (bs.map Value.ref).any (isRef a) = decide (a ∈ bs)
  | [] => by simp
  | b :: bs => by
    simp only [List.map_cons, List.any_cons, any_ref a bs, isRef, List.mem_cons]
    by_cases e : b = a
    · simp [e]
    · have e' : ¬ a = b := fun z => e z.symm
      simp [e, e']
theorem mem_idc {pins : List (Addr × Obj)} {σ : St} {H : Hp} {s : Shared} {A : Around} {a C dx : Addr} {fs : List (Str × V)} {bs : List Addr} (I : Inv X pins σ H s) (hu : A.units < cLine) (k : IdC X.K C) (h1 : H a = some (.ins C dx fs)) (h2 : ∀ b ∈ bs, ∃ dy gs, H b = some (.ins C dy gs)) : ∀ u ∈ bs.map Value.ref, SeqAt.EqAt A s u (.ref a) (isRef a u) := fun u m => by
  obtain ⟨b, mb, rfl⟩ := List.mem_map.mp m
  obtain ⟨dy, gs, h2⟩ := h2 b mb
  obtain ⟨_, O1, _⟩ := ins_get I.hok h1
  obtain ⟨_, J1, _⟩ := O1.look
  obtain ⟨_, O2, _⟩ := ins_get I.hok h2
  obtain ⟨_, J2, _⟩ := O2.look
  exact eq_ins hu I.kIn J2 J1 k
theorem op_inIdc (hu : X.A.units + 64 < cLine) : OpR X (compareOp .In) (rInIdc X.K false) := by
  intro pins s σ H x y v u Q I rx ry h
  obtain ⟨a, p, C, dx, fs, bs, rfl, rfl, h1, k, hq, h2, q⟩ := h
  cases (show v = Value.ref a from rx)
  cases (show u = Value.ref p from ry)
  obtain ⟨its, r, pl, hz⟩ := I.list hq
  rw [vals_refs r] at pl
  refine SeqAt.in_listAt (isRef a) pl.isList (fun u m => mem_idc I (by show X.A.units + 1 < cLine; omega) k h1 h2 u (by simpa using m)) ⟨.bl _, H, I, rfl, ?_⟩
  rw [show (bs.map Value.ref).toArray.any (isRef a) = (bs.map Value.ref).any (isRef a) by simp, any_ref]
  exact q
theorem op_ninIdc (hu : X.A.units + 64 < cLine) : OpR X (compareOp .NotIn) (rInIdc X.K true) := by
  intro pins s σ H x y v u Q I rx ry h
  obtain ⟨a, p, C, dx, fs, bs, rfl, rfl, h1, k, hq, h2, q⟩ := h
  cases (show v = Value.ref a from rx)
  cases (show u = Value.ref p from ry)
  obtain ⟨its, r, pl, hz⟩ := I.list hq
  rw [vals_refs r] at pl
  refine SeqAt.notIn_listAt (isRef a) pl.isList (fun u m => mem_idc I (by show X.A.units + 1 < cLine; omega) k h1 h2 u (by simpa using m)) ⟨.bl _, H, I, rfl, ?_⟩
  rw [show (bs.map Value.ref).toArray.any (isRef a) = (bs.map Value.ref).any (isRef a) by simp, any_ref]
  exact q
end
/-! ### lifted -/
def idEq (idc : Nat → Bool) (h : Heap) : W → W → Option Bool
  | .ref n, .ref m => match h.get n, h.get m with
    | some (.ins c _), some (.ins d _) => if c = d ∧ idc c = true then some (decide (n = m)) else none
    | _, _ => none
  | _, _ => none
def refsOf (h : Heap) (c : Nat) : List W → Option (List Nat)
  | [] => some []
  | .ref n :: r => match h.get n with
    | some (.ins d _) => if c = d then (refsOf h c r).map (n :: ·) else none
    | _ => none
  | _ => none
def idIn (idc : Nat → Bool) (h : Heap) : W → W → Option Bool
  | .ref n, y => match h.get n, seqW h y with
    | some (.ins c _), some xs => if idc c = true then (refsOf h c xs).map fun ns => decide (n ∈ ns) else none
    | _, _ => none
  | _, _ => none
def orO (a b : Option Bool) : Option Bool := match a with
  | some x => some x
  | none => b
def ofO (neg : Bool) (o : Option Bool) (h : Heap) : R := match o with
  | some b => .ok (.bl (if neg then !b else b)) h
  | none => .bad
def wEqI (idc : Nat → Bool) (x y : W) (h : Heap) : R := ofO false (orO (idEq idc h x y) (eqO h x y)) h
def wNeI (idc : Nat → Bool) (x y : W) (h : Heap) : R := ofO true (orO (idEq idc h x y) (eqO h x y)) h
def wInI (idc : Nat → Bool) (x y : W) (h : Heap) : R := ofO false (orO (idIn idc h x y) (inO h x y)) h
def wNinI (idc : Nat → Bool) (x y : W) (h : Heap) : R := ofO true (orO (idIn idc h x y) (inO h x y)) h
section
variable {X : Cx} {N : Nm}
theorem ref_eq {K : PySem.W.Frag} {ρ : List Addr} {h : Heap} {H : Hp} (hr : HR K N ρ h H) {n m : Nat} {a b : Addr} (p : ρ[n]? = some a) (q : ρ[m]? = some b) : (a = b ↔ n = m) := by
  constructor
  · rintro rfl
    obtain ⟨l1, e1⟩ := List.getElem?_eq_some_iff.mp p
    obtain ⟨l2, e2⟩ := List.getElem?_eq_some_iff.mp q
    exact (List.getElem_inj hr.nd).mp (e1.trans e2.symm)
  · rintro rfl
    rw [p] at q; cases q; rfl
theorem idEq_in {K : PySem.W.Frag} {ρ : List Addr} {h : Heap} {H : Hp} {x y : W} {v u : V} {b neg : Bool} {idc : Nat → Bool} {Q : VK} {E : XK} (hi : ∀ c, idc c = true → IdC K (N.ca c)) (hr : HR K N ρ h H) (rx : VR K ρ H x v) (ry : VR K ρ H y u) (e : idEq idc h x y = some b) (o : Out K N ρ H (.ok (.bl (if neg then !b else b)) h) Q E) : rIdc K neg v u H Q := by
  unfold idEq at e
  split at e
  · cases rx with
    | ref p => cases ry with
      | ref q =>
        split at e
        · rename_i c fs d gs e1 e2
          split at e
          · rename_i z
            cases e
            obtain ⟨rfl, z⟩ := z
            obtain ⟨dx, fs', g1, _⟩ := ins_of hr e1 p
            obtain ⟨dy, gs', g2, _⟩ := ins_of hr e2 q
            refine ⟨_, _, _, dx, dy, fs', gs', rfl, rfl, g1, g2, hi _ z, ?_⟩
            have := o.val hr (.bl _)
            rw [show decide (_ = _) = decide (_ = _) from decide_eq_decide.mpr (ref_eq hr p q)]
            exact this
          · cases e
        · cases e
  · cases e
theorem refs_in {K : PySem.W.Frag} {ρ : List Addr} {h : Heap} {H : Hp} (hr : HR K N ρ h H) {c : Nat} : ∀ {xs : List W} {ys : List V} {ns : List Nat}, refsOf h c xs = some ns → VRs K ρ H xs ys → ∃ bs : List Addr, ys = bs.map V.ref ∧ (∀ b ∈ bs, ∃ dy gs, H b = some (.ins (N.ca c) dy gs)) ∧ ∀ n a, ρ[n]? = some a → (a ∈ bs ↔ n ∈ ns)
  | [], [], ns, e, .nil => by simp [refsOf] at e; subst e; exact ⟨[], rfl, by simp, by simp⟩
  | x :: xs, y :: ys, ns, e, .cons q r => by
    cases q with
    | @ref m b q =>
      simp only [refsOf] at e
      split at e
      · rename_i d fs e1
        split at e
        · rename_i z
          subst z
          obtain ⟨ns', e2, rfl⟩ := Option.map_eq_some_iff.mp e
          obtain ⟨bs, rfl, h1, h2⟩ := refs_in hr e2 r
          obtain ⟨dy, gs, g1, _⟩ := ins_of hr e1 q
          refine ⟨b :: bs, rfl, fun b' m' => ?_, fun n a p => ?_⟩
          · rcases List.mem_cons.mp m' with rfl | m'
            · exact ⟨dy, gs, g1⟩
            · exact h1 b' m'
          · rw [List.mem_cons, List.mem_cons, h2 n a p, ref_eq hr p q]
        · cases e
      · cases e
    | _ => simp [refsOf] at e
theorem idIn_in {K : PySem.W.Frag} {ρ : List Addr} {h : Heap} {H : Hp} {x y : W} {v u : V} {b neg : Bool} {idc : Nat → Bool} {Q : VK} {E : XK} (hi : ∀ c, idc c = true → IdC K (N.ca c)) (hr : HR K N ρ h H) (rx : VR K ρ H x v) (ry : VR K ρ H y u) (e : idIn idc h x y = some b) (o : Out K N ρ H (.ok (.bl (if neg then !b else b)) h) Q E) : rInIdc K neg v u H Q := by
  unfold idIn at e
  split at e
  · cases rx with
    | ref p =>
      split at e
      · rename_i c fs xs e1 e2
        split at e
        · rename_i z
          obtain ⟨ns, e3, rfl⟩ := Option.map_eq_some_iff.mp e
          obtain ⟨dx, fs', g1, _⟩ := ins_of hr e1 p
          obtain ⟨pa, ys, rfl, h1, h2⟩ := seqW_in hr e2 ry
          obtain ⟨bs, rfl, h3, h4⟩ := refs_in hr e3 h2
          refine ⟨_, pa, _, dx, fs', bs, rfl, rfl, g1, hi _ z, h1, h3, ?_⟩
          have := o.val hr (.bl _)
          rw [show decide (_ ∈ bs) = decide (_ ∈ ns) from decide_eq_decide.mpr (h4 _ _ p)]
          exact this
        · cases e
      · cases e
  · cases e
theorem ok_eqI {idc : Nat → Bool} (hi : ∀ c, idc c = true → IdC X.K (N.ca c)) (hu : X.A.units + 64 < cLine) : OpOk X N (compareOp .Eq) (wEqI idc) := by
  obtain ⟨r, h1, h2⟩ := ok_eq (X := X) (N := N) hu
  refine ⟨_, (op_eqIdc hu).or h1, fun ρ h H x y v u Q E hr rx ry o => ?_⟩
  unfold wEqI ofO orO at o
  cases e : idEq idc h x y with
  | some b => rw [e] at o; exact .inl (idEq_in hi hr rx ry e o)
  | none =>
    rw [e] at o
    refine .inr (h2 ρ h H x y v u Q E hr rx ry ?_)
    unfold wEq
    cases e2 : eqO h x y with
    | none => rw [e2] at o; exact o
    | some b => rw [e2] at o; exact o
theorem ok_neI {idc : Nat → Bool} (hi : ∀ c, idc c = true → IdC X.K (N.ca c)) (hu : X.A.units + 64 < cLine) : OpOk X N (compareOp .NotEq) (wNeI idc) := by
  obtain ⟨r, h1, h2⟩ := ok_ne (X := X) (N := N) hu
  refine ⟨_, (op_neIdc hu).or h1, fun ρ h H x y v u Q E hr rx ry o => ?_⟩
  unfold wNeI ofO orO at o
  cases e : idEq idc h x y with
  | some b => rw [e] at o; exact .inl (idEq_in hi hr rx ry e o)
  | none =>
    rw [e] at o
    refine .inr (h2 ρ h H x y v u Q E hr rx ry ?_)
    unfold wNe
    cases e2 : eqO h x y with
    | none => rw [e2] at o; exact o
    | some b => rw [e2] at o; exact o
theorem ok_inI {idc : Nat → Bool} (hi : ∀ c, idc c = true → IdC X.K (N.ca c)) (hu : X.A.units + 65 < cLine) : OpOk X N (compareOp .In) (wInI idc) := by
  obtain ⟨r, h1, h2⟩ := ok_in (X := X) (N := N) hu
  refine ⟨_, (op_inIdc (by omega)).or h1, fun ρ h H x y v u Q E hr rx ry o => ?_⟩
  unfold wInI ofO orO at o
  cases e : idIn idc h x y with
  | some b => rw [e] at o; exact .inl (idIn_in hi hr rx ry e o)
  | none =>
    rw [e] at o
    refine .inr (h2 ρ h H x y v u Q E hr rx ry ?_)
    unfold wIn
    cases e2 : inO h x y with
    | none => rw [e2] at o; exact o
    | some b => rw [e2] at o; exact o
theorem ok_ninI {idc : Nat → Bool} (hi : ∀ c, idc c = true → IdC X.K (N.ca c)) (hu : X.A.units + 65 < cLine) : OpOk X N (compareOp .NotIn) (wNinI idc) := by
  obtain ⟨r, h1, h2⟩ := ok_nin (X := X) (N := N) hu
  refine ⟨_, (op_ninIdc (by omega)).or h1, fun ρ h H x y v u Q E hr rx ry o => ?_⟩
  unfold wNinI ofO orO at o
  cases e : idIn idc h x y with
  | some b => rw [e] at o; exact .inl (idIn_in hi hr rx ry e o)
  | none =>
    rw [e] at o
    refine .inr (h2 ρ h H x y v u Q E hr rx ry ?_)
    unfold wNin
    cases e2 : inO h x y with
    | none => rw [e2] at o; exact o
    | some b => rw [e2] at o; exact o
end
end Ev
set_option maxRecDepth 100000
/-! EvCls: classes of the text: their methods, properties, fields; the facts that the head is asked. -/
namespace Ev
open PySem L2
/-- how a def's arguments bind -/
def BdQ (x q : Str) (st : Stmt) (ps : List Str) (n : Nat) (ks : List Str) (sel : List (Bool × Nat)) : Prop :=
  ∀ (kV doc pm : Value) (an : Option Addr) (cdv ct : Value) (us ws : List Value), us.length = n → ws.length = ks.length → bindArgs (PySem.W.fnOf x q (defArgs st) (defBody st) (defScope st) .none kV doc pm an cdv ct) ⟨us, ks.zip ws⟩ = pure (ps.zip (pick sel us ws))
theorem FunD.kbq {K : PySem.W.Frag} {x q : Str} {st : Stmt} {ps : List Str} {n : Nat} {ks : List Str} {sel : List (Bool × Nat)} {f : Addr} {fd : FuncData} (F : FunD K x q (defArgs st) (defBody st) (defScope st) [] [] f fd) (h : BdQ x q st ps n ks sel) : KB K fd ps n ks (pick sel) := by
  obtain ⟨oc, od, dV, kV, doc, pm, an, cdv, ct, osl, rfl, lk, hcd, hd, _⟩ := F.ex
  obtain rfl : dV = .none := by
    rcases hd with ⟨_, e⟩ | ⟨e, _⟩
    · exact e
    · exact (e rfl).elim
  exact ⟨pick sel, fun s us ws _ l1 l2 => .of_eq (h _ _ _ _ _ _ us ws l1 l2), fun r1 r2 q1 q2 l1 l2 => pick_vrs r1 r2 q1 q2 sel⟩
/-- a def of the text at f -/
def FnAt (K : PySem.W.Frag) (f : Addr) (x q : Str) (st : Stmt) : Prop := ∃ fd, FunD K x q (defArgs st) (defBody st) (defScope st) [] [] f fd
/-- .. and what it does -/
structure MdOk (P : Program) (w : World) (K : PySem.W.Frag) (mg : Str → Option Value) (base : PySem.Heap) (N : Nm) (k : Nat) (f : Addr) (x q : Str) (st : Stmt) (ps : List Str) (F : List W → Heap → R) : Prop where
  ex : ∃ fd, FunD K x q (defArgs st) (defBody st) (defScope st) [] [] f fd ∧ FG P w K mg base k f fd ps (LSp K N F)
theorem MdOk.mono {P : Program} {w : World} {K : PySem.W.Frag} {mg : Str → Option Value} {base : PySem.Heap} {N : Nm} {j k : Nat} {f : Addr} {x q : Str} {st : Stmt} {ps : List Str} {F : List W → Heap → R} (D : MdOk P w K mg base N j f x q st ps F) (h : j ≤ k) : MdOk P w K mg base N k f x q st ps F :=
  let ⟨fd, h1, h2⟩ := D.ex
  ⟨fd, h1, h2.mono h⟩
theorem MdOk.mk' {P : Program} {w : World} {K : PySem.W.Frag} {mg : Str → Option Value} {base : PySem.Heap} {N : Nm} {k : Nat} {f : Addr} {x q : Str} {st : Stmt} {ps Ns : List Str} {s : SS} (D : FnAt K f x q st) (S : FnScope Ns ps (defScope st)) (b : BodyOk P w K mg base N Ns q (defScope st) (defBody st) f k s) :
    MdOk P w K mg base N (k + 1) f x q st ps (fnOf ps.length Ns.length s) :=
  let ⟨fd, h⟩ := D
  ⟨fd, h, d_fn h S b⟩
/-- a getter: no matter what is being shown -/
structure GtOk (P : Program) (w : World) (K : PySem.W.Frag) (mg : Str → Option Value) (base : PySem.Heap) (N : Nm) (k : Nat) (f : Addr) (F : List W → Heap → R) : Prop where
  ex : ∃ fd, FnOk P w K mg base (L2.CX P w) k f fd ["self"] (LSp K N F) ∧ Binds K fd ["self"] []
def BodyOk0 (P : Program) (w : World) (K : PySem.W.Frag) (mg : Str → Option Value) (base : PySem.Heap) (Nn : Nm) (N : List Str) (qual : Str) (scope : Scope) (body : List Stmt) (f : Addr) (k : Nat) (s : SS) : Prop :=
  ∀ (cdv : Value) (A : Around) (outer : List Env) (st : Shared) (H : Hp) (E : XK), Room k (A.deeper (PyProof.Rows.envOfC qual scope st.heap.objs.size f cdv)) →
    PSs (cxOf (L2.CX P w) P w K mg base N qual scope f cdv A outer st H E) body (LS K Nn (fun c d _ H' => E c d H') s)
theorem GtOk.mk' {P : Program} {w : World} {K : PySem.W.Frag} {mg : Str → Option Value} {base : PySem.Heap} {N : Nm} {k : Nat} {f : Addr} {x q : Str} {st : Stmt} {Ns : List Str} {s : SS} (D : FnAt K f x q st) (S : FnScope Ns [("self" : Str)] (defScope st)) (b : BodyOk0 P w K mg base N Ns q (defScope st) (defBody st) f k s)
    (bd : BdQ x q st ["self"] 1 [] [(false, 0)]) : GtOk P w K mg base N (k + 1) f (fnOf 1 Ns.length s) := by
  obtain ⟨fd, h⟩ := D
  have hpl : [("self" : Str)].length ≤ Ns.length := by have := congrArg List.length S.pre; rw [List.length_take] at this; omega
  refine ⟨fd, FunD.ok h S (fun vs H Q E h => fn_len (ps := [("self" : Str)]) h) fun cdv A outer st' H vs Q E hr hsp => ⟨_, b cdv A outer st' H E hr, fn_in (ps := [("self" : Str)]) hpl hsp⟩, ?_⟩
  refine FunD.bindsN h fun kV doc pm an cdv ct us hl => ?_
  match us, hl with
  | [u], _ => exact bd kV doc pm an cdv ct [u] [] rfl rfl
section
variable {X : Cx} {N : Nm} {Wx : WX} {pos p apos : Pos} {e a b o : PySem.Expr} {es : List PySem.Expr} {kws : List Keyword} {gs hs : SEs} {k n : Nat} {x q m : Str} {st : Stmt} {ps ks : List Str} {F : List W → Heap → R} {sel : List (Bool × Nat)} {f g : SE} {fa : Addr}
/-- f(..), a def of the module -/
theorem r_callf (hm : X.mg x = some (.ref fa)) (D : MdOk X.prog X.w X.K X.mg X.base N k fa x x st ps F) (bd : BdQ x x st ps n ks sel) (hr : Room k X.A) (hgu : X.A.guards = some []) (tk : Takes X Wx) (ha : PA X (e :: es) (LA X.K N Wx gs)) (hkw : PK X kws (LA X.K N Wx hs)) (hg : Gl X x := by rfl)
    (hall : (backToKw pos (keywordEach kws X.env)).all (·.1.isSome) = true := by rfl) (hks : (backToKw pos (keywordEach kws X.env)).filterMap (·.1) = ks := by rfl)
    (hdb : (x == ("__debug__" : Str)) = false := by decide) (he : starEach (e :: es) X.env = (false, eval e X.env) :: starEach es X.env := by rfl)
    (hpl : ((backTo pos (starEach (e :: es) X.env)).any (·.1) || (backToKw pos (keywordEach kws X.env)).any (·.1.isNone)) = false := by rfl) : PE X (.Call (.Name x p) (e :: es) kws pos) (LE X.K N Wx (eCall (fun xs ys h => F (pick sel xs ys) h) n ks.length gs hs)) := by
  obtain ⟨fd, h2, h3⟩ := D.ex
  exact r_call (cal_fn h3 hr hgu (FunD.kbq h2 bd) tk) hg hm h2.kp ha hkw hall hks hdb he hpl
theorem r_callf0 (hm : X.mg x = some (.ref fa)) (D : MdOk X.prog X.w X.K X.mg X.base N k fa x x st ps F) (bd : BdQ x x st ps 0 ks sel) (hr : Room k X.A) (hgu : X.A.guards = some []) (tk : Takes X Wx) (hkw : PK X kws (LA X.K N Wx hs)) (hg : Gl X x := by rfl)
    (hall : (backToKw pos (keywordEach kws X.env)).all (·.1.isSome) = true := by rfl) (hks : (backToKw pos (keywordEach kws X.env)).filterMap (·.1) = ks := by rfl)
    (hdb : (x == ("__debug__" : Str)) = false := by decide)
    (hpl : ((backTo pos (starEach [] X.env)).any (·.1) || (backToKw pos (keywordEach kws X.env)).any (·.1.isNone)) = false := by rfl) : PE X (.Call (.Name x p) [] kws pos) (LE X.K N Wx (eCall (fun xs ys h => F (pick sel xs ys) h) 0 ks.length aNil hs)) := by
  obtain ⟨fd, h2, h3⟩ := D.ex
  exact r_call0 (cal_fn h3 hr hgu (FunD.kbq h2 bd) tk) hg hm h2.kp hkw hall hks hdb hpl
/-- C(..) -/
theorem r_make {c : Nat} (M : Mk X.K (N.ca c) fa) (D : MdOk X.prog X.w X.K X.mg X.base N k fa "__init__" q st ps F) (bd : BdQ "__init__" q st ps (n + 1) ks sel) (gC : X.mg x = some (.ref (N.ca c))) (hr : Room (k + 1) X.A) (hgu : X.A.guards = some []) (tk : Takes X Wx)
    (ha : PA X (e :: es) (LA X.K N Wx gs)) (hkw : PK X kws (LA X.K N Wx hs)) (hg : Gl X x := by rfl)
    (hall : (backToKw pos (keywordEach kws X.env)).all (·.1.isSome) = true := by rfl) (hks : (backToKw pos (keywordEach kws X.env)).filterMap (·.1) = ks := by rfl)
    (hdb : (x == ("__debug__" : Str)) = false := by decide) (he : starEach (e :: es) X.env = (false, eval e X.env) :: starEach es X.env := by rfl)
    (hpl : ((backTo pos (starEach (e :: es) X.env)).any (·.1) || (backToKw pos (keywordEach kws X.env)).any (·.1.isNone)) = false := by rfl) : PE X (.Call (.Name x p) (e :: es) kws pos) (LE X.K N Wx (eCall (mkObj c F (pick sel)) n ks.length gs hs)) := by
  obtain ⟨fd, h2, h3⟩ := D.ex
  exact r_call (cal_make M h3 hr hgu (FunD.kbq h2 bd) tk) hg gC M.kp ha hkw hall hks hdb he hpl
theorem r_make0 {c : Nat} (M : Mk X.K (N.ca c) fa) (D : MdOk X.prog X.w X.K X.mg X.base N k fa "__init__" q st ps F) (bd : BdQ "__init__" q st ps 1 ks sel) (gC : X.mg x = some (.ref (N.ca c))) (hr : Room (k + 1) X.A) (hgu : X.A.guards = some []) (tk : Takes X Wx) (hkw : PK X kws (LA X.K N Wx hs)) (hg : Gl X x := by rfl)
    (hall : (backToKw pos (keywordEach kws X.env)).all (·.1.isSome) = true := by rfl) (hks : (backToKw pos (keywordEach kws X.env)).filterMap (·.1) = ks := by rfl)
    (hdb : (x == ("__debug__" : Str)) = false := by decide)
    (hpl : ((backTo pos (starEach [] X.env)).any (·.1) || (backToKw pos (keywordEach kws X.env)).any (·.1.isNone)) = false := by rfl) : PE X (.Call (.Name x p) [] kws pos) (LE X.K N Wx (eCall (mkObj c F (pick sel)) 0 ks.length aNil hs)) := by
  obtain ⟨fd, h2, h3⟩ := D.ex
  exact r_call0 (cal_make M h3 hr hgu (FunD.kbq h2 bd) tk) hg gC M.kp hkw hall hks hdb hpl
/-- one class alone has it -/
def onlyC {α : Type} (c : Nat) (a : α) (d : Nat) : Option α := if d = c then some a else none
def atF (cs : List Nat) (d : Nat) : At := if d ∈ cs then .fld else .none
def atP (c : Nat) (G : List W → Heap → R) (d : Nat) : At := if d = c then .prop G else .none
theorem mt_ok {c mi : Nat} (cl : Cls X.K (N.ca c)) (hm : Meth X.K (N.ca c) (N.an mi) fa) (D : MdOk X.prog X.w X.K X.mg X.base N k fa x q st ps F) (bd : BdQ x q st ps (n + 1) ks sel) (hr : Room k X.A) (hgu : X.A.guards = some []) (tk : Takes X Wx) :
    ∀ d G, onlyC c (fun xs ys h => F (pick sel xs ys) h) d = some G → MtOk X N Wx mi n ks d G := fun d G e => by
  unfold onlyC at e
  split at e
  · rename_i z
    subst z
    cases e
    obtain ⟨fd, h2, h3⟩ := D.ex
    exact ⟨cl, fa, hm, cal_fn h3 hr hgu (FunD.kbq h2 bd) tk⟩
  · cases e
theorem at_fld {cs : List Nat} {i : Nat} (h : ∀ c ∈ cs, Cls X.K (N.ca c) ∧ NoAttr X.K (N.ca c) (N.an i)) : ∀ d, AtOk X N i d (atF cs d) := fun d => by
  unfold atF
  split
  · rename_i z
    exact ⟨fun _ => h d z, fun G e => by cases e⟩
  · exact ⟨fun e => (by cases e), fun G e => by cases e⟩
theorem at_prop {c i : Nat} {pr gt : Addr} {G : List W → Heap → R} (cl : Cls X.K (N.ca c)) (hp : PropOf X.K (N.ca c) (N.an i) pr gt) (D : GtOk X.prog X.w X.K X.mg X.base N k gt G) (hr : Room (k + 1) X.A) : ∀ d, AtOk X N i d (atP c G d) := fun d => by
  unfold atP
  split
  · rename_i z
    subst z
    obtain ⟨fd, h1, h2⟩ := D.ex
    exact ⟨fun e => (by cases e), fun G' e => by cases e; exact ⟨cl, pr, gt, k, fd, ["self"], hp, h1, hr, h2⟩⟩
  · exact ⟨fun e => (by cases e), fun G e => by cases e⟩
theorem set_ok {cs : List Nat} {i : Nat} (h : ∀ c ∈ cs, Cls X.K (N.ca c) ∧ NoAttr X.K (N.ca c) (N.an i)) : ∀ c, (decide (c ∈ cs)) = true → Cls X.K (N.ca c) ∧ NoAttr X.K (N.ca c) (N.an i) := fun c e => h c (of_decide_eq_true e)
/-- never reached -/
def sBad : SS := fun _ _ => .bad
def eBad : SE := fun _ _ => .bad
theorem s_bad {st : Stmt} : PS X st (LS X.K N Wx sBad) := ⟨fun _ _ _ _ _ _ h => by obtain ⟨_, _, _, _, _, z⟩ := h; exact z.elim⟩
theorem r_bad {e : PySem.Expr} : PE X e (LE X.K N Wx eBad) := ⟨fun _ _ _ _ _ _ h => by obtain ⟨_, _, _, _, _, z⟩ := h; exact z.elim⟩
end
/-! ### what the head is asked -/
section
open He
/-- places of a class's things -/
def pad (K : PySem.W.Frag) (C : Addr) (f : Str) : Addr := match PySem.W.findIn K (.ref C) f with
  | some (some (.ref p)) => p
  | _ => 0
def gad (K : PySem.W.Frag) (p : Addr) : Addr := match PySem.W.recIn K p "property" with
  | some (.ref g :: _) => g
  | _ => 0
inductive Fc where
  | fa (f : Fa) | tup (x : Str) (ds : List Dv) | prop (x f : Str) | idc (x : Str) | ins (x : Str) | kit (t : String) (x : Str) (b : Bool) | kitC (y x : Str) (b : Bool) | chk (f : PySem.W.Frag → Bool)
def Fc.ok (K : PySem.W.Frag) : Fc → Bool
  | .fa f => f.ok K
  | .tup x ds => tupB K x ds
  | .prop x f => decide (PySem.W.findIn K (.ref (ga K x)) f = some (some (.ref (pad K (ga K x) f)))) && (decide (PySem.W.specialIn K (.ref (pad K (ga K x) f)) "__get__" = some (some (.builtin "property.__get__"))) && (decide (PySem.W.takesIn K (.ref (pad K (ga K x) f)) = some true) &&
      (match PySem.W.recIn K (pad K (ga K x) f) "property" with
      | some (.ref g :: _) => decide (g = gad K (pad K (ga K x) f))
      | _ => false)))
  | .idc x => decide (PySem.W.mroIn K (ga K x) (.type "object") = some true) && (decide (PySem.W.findIn K (.ref (ga K x)) "__eq__" = some (some (.builtin "object.__eq__"))) && decide (PySem.W.findIn K (.ref (ga K x)) "__ne__" = some (some (.builtin "object.__ne__"))))
  | .ins x => decide (PySem.W.findIn K (.ref (ga K x)) "__class__" = some (some (.builtin "object.__class__"))) && (decide (PySem.W.specialIn K (.builtin "object.__class__") "__get__" = some (some (.builtin "getset_descriptor.__get__"))) && (decide (PySem.W.takesIn K (.builtin "object.__class__") = some true) && decide (PySem.W.mroIn K (ga K x) (.type "object") = some true)))
  | .kit t x b => decide (PySem.W.kitOne K (.type t) (.ref (ga K x)) = some b)
  | .kitC y x b => decide (PySem.W.kitOne K (.ref (ga K y)) (.ref (ga K x)) = some b)
  | .chk f => f K
theorem prop_ok {K : PySem.W.Frag} {x f : Str} (c : (Fc.prop x f).ok K = true) : PropOf K (ga K x) f (pad K (ga K x) f) (gad K (pad K (ga K x) f)) := by
  obtain ⟨h1, c⟩ := ba c
  obtain ⟨h2, c⟩ := ba c
  obtain ⟨h3, c⟩ := ba c
  refine ⟨of_decide_eq_true h1, of_decide_eq_true h2, of_decide_eq_true h3, ?_⟩
  split at c
  · rename_i g r e
    have e2 := of_decide_eq_true c
    subst e2
    exact ⟨r, e⟩
  · cases c
theorem idc_ok {K : PySem.W.Frag} {x : Str} (c : (Fc.idc x).ok K = true) : IdC K (ga K x) := by
  obtain ⟨h1, c⟩ := ba c
  obtain ⟨h2, h3⟩ := ba c
  exact ⟨of_decide_eq_true h1, of_decide_eq_true h2, of_decide_eq_true h3⟩
/-- one def: its place by names, its names, its text -/
structure DefE where
  ad : PySem.W.Frag → Addr
  name : Str
  qual : Str
  st : Stmt
def fnE (K : PySem.W.Frag) (a : Addr) : FnW := match K.lookup a with
  | some ⟨_, _, .func fd, _⟩ => some (fd.name, fd.qualname, fd.params, fd.body, fd.scope, fd.globals, fd.closure, fd.builtins)
  | _ => none
def DefE.val (d : DefE) : FnW := some (d.name, d.qual, defArgs d.st, .stmts (defBody d.st), defScope d.st, mainGlobals, [], builtinsNs)
def DefE.ok (K : PySem.W.Frag) (d : DefE) : Bool := PySem.W.keepIn K (.ref (d.ad K)) && (match K.lookup (d.ad K) with
  | some ⟨_, _, .func fd, _⟩ => PySem.W.codeIn K fd.code d.qual && dflB K fd.defaults []
  | _ => false)
theorem DefE.at_ {K : PySem.W.Frag} {d : DefE} (e : fnE K (d.ad K) = d.val) (c : d.ok K = true) : FnAt K (d.ad K) d.name d.qual d.st := by
  obtain ⟨kp, c2⟩ := ba c
  unfold fnE at e
  split at e
  · rename_i oc od fd osl q
    rw [q] at c2
    obtain ⟨k1, k3⟩ := ba c2
    obtain ⟨n1, n2, n3, n4, n5, n6, n7, n8, n9, n10, n11, n12, n13, n14, n15⟩ := fd
    simp only [DefE.val, Option.some.injEq, Prod.mk.injEq] at e
    obtain ⟨rfl, rfl, rfl, rfl, rfl, rfl, rfl, rfl⟩ := e
    exact ⟨_, ⟨oc, od, n8, n9, n10, n11, n12, n13, n14, osl, rfl, q, k1, dflB_ok k3, .inl rfl⟩, kp⟩
  · cases e
abbrev AlE : Type := Bool × List FnW
def obsC (fc : List Fc) (fn : List DefE) (K : PySem.W.Frag) : AlE := ((fc.all fun f => f.ok K) && fn.all fun d => d.ok K, fn.map fun d => fnE K (d.ad K))
def valC (fn : List DefE) : AlE := (true, fn.map DefE.val)
def obsCG (n : Nat) (fc : List Fc) (fn : List DefE) (g : Addr → Option Obj) : AlE := obsC fc fn (frG g (cStatics :: asD g n))
def SaysC (fc : List Fc) (fn : List DefE) (K : PySem.W.Frag) : Prop := obsC fc fn K = valC fn
def hookC (n : Nat) (fc : List Fc) (fn : List DefE) : PySem.W.Hook where
  α := AlE
  obs := fun s => obsCG n fc fn s.heap.get?
  val := fun _ => valC fn
  says := fun _ h => ∃ K : PySem.W.Frag, K.In h ∧ SaysC fc fn K
  of := fun _ _ e => ⟨_, frG_in, e⟩
  keeps := fun _ _ _ ⟨K, hK, c⟩ k => ⟨K, PySem.W.Frag.In.keeps hK k, c⟩
theorem obsCG_eq {n : Nat} {fc : List Fc} {fn : List DefE} {g : Addr → Option Obj} {s : Shared} (h : ∀ a, g a = s.heap.get? a) : obsCG n fc fn g = (hookC n fc fn).obs s := by
  have e : g = s.heap.get? := funext h
  rw [e] <;> rfl
variable {fc : List Fc} {fn : List DefE} {K : PySem.W.Frag}
theorem SaysC.fact (c : SaysC fc fn K) (i : Nat) {f : Fc} (h : fc[i]? = some f := by rfl) : f.ok K = true :=
  List.all_eq_true.mp (ba (show ((fc.all fun f => f.ok K) && fn.all fun d => d.ok K) = true from congrArg (fun z : AlE => z.1) c)).1 f (List.mem_of_getElem? h)
theorem SaysC.fa (c : SaysC fc fn K) (i : Nat) {f : Fa} (h : fc[i]? = some (.fa f) := by rfl) : f.ok K = true := SaysC.fact c i h
theorem SaysC.tup (c : SaysC fc fn K) (i : Nat) {x : Str} {ds : List Dv} (h : fc[i]? = some (.tup x ds) := by rfl) : tupB K x ds = true := SaysC.fact c i h
theorem SaysC.def_ (c : SaysC fc fn K) (i : Nat) {d : DefE} (h : fn[i]? = some d := by rfl) : FnAt K (d.ad K) d.name d.qual d.st := by
  have c2 := (ba (show ((fc.all fun f => f.ok K) && fn.all fun d => d.ok K) = true from congrArg (fun z : AlE => z.1) c)).2
  have e : fn.map (fun d => fnE K (d.ad K)) = fn.map DefE.val := congrArg (fun z : AlE => z.2) c
  have e2 : (fn.map fun d => fnE K (d.ad K))[i]? = (fn.map DefE.val)[i]? := by rw [e]
  rw [List.getElem?_map, List.getElem?_map, h] at e2
  exact DefE.at_ (Option.some.inj e2) (List.all_eq_true.mp c2 d (List.mem_of_getElem? h))
end
/-- class 0 is compared by identity -/
def idF (c : Nat) : Bool := decide (c = 0)
end Ev
set_option maxRecDepth 100000
/-! EvBlt3: methods of lists, in-place operators. -/
namespace Ev
open PySem L2
def mAppend : W → List W → Heap → R
  | .ref n, [w], h => match h.get n with
    | some (.lst xs) => if xs.length < sizeLine then .ok .non (h.put n (.lst (xs ++ [w]))) else .bad
    | _ => .bad
  | _, _, _ => .bad
def mPop : W → List W → Heap → R
  | .ref n, [], h => match h.get n with
    | some (.lst xs) => match xs[xs.length - 1]? with
      | some w => .ok w (h.put n (.lst xs.dropLast))
      | none => .bad
    | _ => .bad
  | .ref n, [.int i], h => match h.get n with
    | some (.lst xs) => if 0 ≤ i ∧ i < 2 ^ 63 then match xs[i.toNat]? with
      | some w => .ok w (h.put n (.lst (xs.eraseIdx i.toNat)))
      | none => .bad
      else .bad
    | _ => .bad
  | _, _, _ => .bad
def intsOf : List W → Option (List Int)
  | [] => some []
  | .int b :: r => (intsOf r).map (b :: ·)
  | _ => none
def mCount : W → List W → Heap → R
  | w, [.int k], h => match (seqW h w).bind intsOf with
    | some ns => .ok (.int (ns.count k : Nat)) h
    | none => .bad
  | _, _, _ => .bad
theorem VRs.dropLast' {K : PySem.W.Frag} {ρ : List Addr} {H : Hp} {xs : List W} {ys : List V} (r : VRs K ρ H xs ys) : VRs K ρ H xs.dropLast ys.dropLast := by
  rw [List.dropLast_eq_take, List.dropLast_eq_take, r.length]
  exact r.take _
theorem VRs.erase {K : PySem.W.Frag} {ρ : List Addr} {H : Hp} : ∀ {xs : List W} {ys : List V} (i : Nat), VRs K ρ H xs ys → VRs K ρ H (xs.eraseIdx i) (ys.eraseIdx i)
  | _, _, _, .nil => .nil
  | _, _, 0, .cons _ r => r
  | _, _, i + 1, .cons q r => .cons q (VRs.erase i r)
section
variable {X : Cx} {N : Nm}
theorem okm_append : BmOk X N "list.append" mAppend := by
  refine ⟨_, mt_append, fun ρ h H w ws v vs Q E hr rw_ rws o => ?_⟩
  unfold mAppend at o
  split at o
  · rename_i n w'
    cases rw_ with
    | ref q =>
      match vs, rws with
      | [u], .cons p .nil =>
        split at o
        · rename_i xs e
          split at o
          · rename_i hz
            obtain ⟨ys, h1, h2⟩ := lst_mut hr e q
            obtain ⟨w1, w2⟩ := hr.setL q h1 (h2.append (.cons p .nil))
            exact ⟨_, ys, u, rfl, rfl, h1, by rw [← h2.length]; exact hz, o ρ _ _ (Ex.put q w2) w1 .non⟩
          · exact o.elim
        · exact o.elim
  · exact o.elim
theorem okm_pop : BmOk X N "list.pop" mPop := by
  refine ⟨_, MtR.or mt_pop mt_popAt, fun ρ h H w ws v vs Q E hr rw_ rws o => ?_⟩
  unfold mPop at o
  split at o
  · rename_i n
    cases rw_ with
    | ref q =>
      cases rws
      split at o
      · rename_i xs e
        split at o
        · rename_i w' e2
          obtain ⟨ys, h1, h2⟩ := lst_mut hr e q
          obtain ⟨y, g1, g2⟩ := h2.get e2
          obtain ⟨w1, w2⟩ := hr.setL q h1 h2.dropLast'
          exact .inl ⟨_, ys, y, rfl, rfl, h1, by rw [← h2.length]; exact g1, o ρ _ _ (Ex.put q w2) w1 (g2.ex (Ex.put q w2))⟩
        · exact o.elim
      · exact o.elim
  · rename_i n i
    cases rw_ with
    | ref q =>
      match vs, rws with
      | [u], .cons qi .nil =>
        cases qi
        split at o
        · rename_i xs e
          split at o
          · rename_i hz
            split at o
            · rename_i w' e2
              obtain ⟨ys, h1, h2⟩ := lst_mut hr e q
              obtain ⟨y, g1, g2⟩ := h2.get e2
              obtain ⟨w1, w2⟩ := hr.setL q h1 (h2.erase i.toNat)
              have lt : i.toNat < ys.length := (List.getElem?_eq_some_iff.mp g1).1
              exact .inr ⟨_, ys, i, i.toNat, y, rfl, rfl, h1, by omega, hz.2, by unfold seqIndex?; simp; omega, g1, o ρ _ _ (Ex.put q w2) w1 (g2.ex (Ex.put q w2))⟩
            · exact o.elim
          · exact o.elim
        · exact o.elim
  · exact o.elim
theorem ints_in {K : PySem.W.Frag} {ρ : List Addr} {H : Hp} : ∀ {xs : List W} {ys : List V} {bs : List Int}, intsOf xs = some bs → VRs K ρ H xs ys → ys = bs.map V.int
  | [], [], bs, e, .nil => by simp [intsOf] at e; subst e; rfl
  | x :: xs, y :: ys, bs, e, .cons q r => by
    cases q with
    | int b =>
      simp only [intsOf, Option.map_eq_some_iff] at e
      obtain ⟨cs, e, rfl⟩ := e
      rw [ints_in e r]
      rfl
    | _ => simp [intsOf] at e
theorem okm_count : BmOk X N "list.count" mCount := by
  refine ⟨_, mt_lcount, fun ρ h H w ws v vs Q E hr rw_ rws o => ?_⟩
  unfold mCount at o
  split at o
  · rename_i w k
    match vs, rws with
    | [u], .cons qi .nil =>
      cases qi
      split at o
      · rename_i ns e
        obtain ⟨xs, e1, e2⟩ := Option.bind_eq_some_iff.mp e
        obtain ⟨p, ys, rfl, h1, h2⟩ := seqW_in hr e1 rw_
        rw [ints_in e2 h2] at h1
        exact ⟨p, ns, k, rfl, rfl, h1, o.val hr (.int _)⟩
      · exact o.elim
  · exact o.elim
/-! in-place -/
def sAug (i : Nat) (op : W → W → Heap → R) (f : SE) : SS := fun ls h => match ls[i]? with
  | some (some x) => match (f ls h).bind fun y h1 => op x y h1 with
    | .ok w h2 => .nx (ls.set i (some w)) h2
    | .exc c fs h2 => .exc c fs ls h2
    | .bad => .bad
  | _ => .bad
theorem s_aug {Wx : WX} {pos pos' : Pos} {e : PySem.Expr} {o : Operator} {i : Nat} {x : Str} {op : W → W → Heap → R} {f : SE} (hN : X.N.Nodup) (hi : X.N[i]? = some x) (hx : Loc X.env.scope x) (ho : OpOk X N (inplaceOp o) op) (he : PE X e (LE X.K N Wx f)) (hf : X.fn x = true ∨ X.env.scope.names.lookup x = some .local := by first | exact .inl rfl | exact .inr rfl | assumption) :
    PS X (.AugAssign (.Name x pos') o e pos) (LS X.K N Wx (sAug i op f)) := by
  obtain ⟨r, h1, h2⟩ := ho
  refine PS.imp (ps_aug hN hi hx he h1 hf) fun D σ H h => ?_
  obtain ⟨ρ, ls, hp, l, hr, oo⟩ := h
  unfold sAug at oo
  split at oo
  · rename_i x e1
    obtain ⟨v, g1, g2⟩ := l.get i x e1
    refine ⟨v, g1, ρ, ls, hp, l, hr, ?_⟩
    cases e2 : f ls hp with
    | ok y h3 =>
      rw [e2] at oo
      intro ρ1 H1 u ex1 r1 ry
      refine h2 ρ1 h3 H1 x y v u _ (fun c d H' => Wx c d σ H') r1 (g2.ex ex1) ry ?_
      simp only [R.bind_ok] at oo
      cases e3 : op x y h3 with
      | ok w h4 => rw [e3] at oo; exact fun ρ2 H2 z ex2 r2 rz => oo ρ2 _ H2 (ex1.trans ex2) (((l.ex ex1).ex ex2).set i rz) r2
      | exc c fs h4 => rw [e3] at oo; exact fun ρ2 H2 d ex2 r2 rz => oo ρ2 σ H2 d (ex1.trans ex2) ((l.ex ex1).ex ex2) r2 rz
      | bad => rw [e3] at oo; exact oo.elim
    | exc c fs h3 => rw [e2] at oo; exact fun ρ1 H1 d ex1 r1 z => oo ρ1 σ H1 d ex1 (l.ex ex1) r1 z
    | bad => rw [e2] at oo; exact oo.elim
  · exact oo.elim
def wIadd : W → W → Heap → R
  | .int i, .int j, h => .ok (.int (i + j)) h
  | .str s, .str t, h => if s.length + t.length ≤ sizeLine then .ok (.str (s ++ t)) h else .bad
  | _, _, _ => .bad
def wIsub : W → W → Heap → R
  | .int i, .int j, h => .ok (.int (i - j)) h
  | _, _, _ => .bad
theorem ok_iadd : OpOk X N (inplaceOp .Add) wIadd := by
  refine ⟨_, iop_add.or iop_add_str, fun ρ h H x y v u Q E hr rx ry o => ?_⟩
  unfold wIadd at o
  split at o
  · cases rx; cases ry; exact .inl ⟨_, _, rfl, rfl, o.val hr (.int _)⟩
  · split at o
    · cases rx; cases ry; exact .inr ⟨_, _, rfl, rfl, by assumption, o.val hr (.str _)⟩
    · exact o.elim
  · exact o.elim
theorem ok_isub : OpOk X N (inplaceOp .Sub) wIsub := by
  refine ⟨_, iop_sub, fun ρ h H x y v u Q E hr rx ry o => ?_⟩
  unfold wIsub at o
  split at o
  · cases rx; cases ry; exact ⟨_, _, rfl, rfl, o.val hr (.int _)⟩
  · exact o.elim
/-- a, b, c = x, y, z with plain local names -/
def sPar3 (i j l : Nat) (gs : SEs) : SS := fun ls h => match gs ls h with
  | .ok [u, v, w] h1 => .nx (((ls.set i (some u)).set j (some v)).set l (some w)) h1
  | .ok _ _ => .bad
  | .exc c fs h1 => .exc c fs ls h1
  | .bad => .bad
theorem s_par3 {Wx : WX} {i j l : Nat} {x y z : Str} {a b c : PySem.Expr} {gs : SEs} {px py pz pt pos : Pos} {kt k2 pt2} (hc : X.calm = true) (hN : X.N.Nodup) (hi : X.N[i]? = some x) (hj : X.N[j]? = some y) (hl : X.N[l]? = some z) (hij : i ≠ j) (hil : i ≠ l) (hjl : j ≠ l)
    (hx : X.env.scope.names.lookup x = some .local) (hy : X.env.scope.names.lookup y = some .local) (hz : X.env.scope.names.lookup z = some .local) (ha : PA X [a, b, c] (LA X.K N Wx gs))
    (hw : swappedStores [.Tuple [.Name x px, .Name y py, .Name z pz] kt pt] (.Tuple [a, b, c] k2 pt2) X.env = pure (some [x, y, z]))
    (hs : swapsWithSole [.Tuple [.Name x px, .Name y py, .Name z pz] kt pt] (.Tuple [a, b, c] k2 pt2) pos.line X.env = pure false := by rfl) :
    PS X (.Assign [.Tuple [.Name x px, .Name y py, .Name z pz] kt pt] (.Tuple [a, b, c] k2 pt2) pos) (LS X.K N Wx (sPar3 i j l gs)) := by
  refine PS.imp (ps_par3 hc hN hi hj hl hij hil hjl hx hy hz ha hw hs) fun D σ H h => ?_
  obtain ⟨ρ, ls, hp, lr, hr, o⟩ := h
  refine ⟨ρ, ls, hp, lr, hr, ?_⟩
  unfold sPar3 at o
  cases e : gs ls hp with
  | ok ws h1 =>
    rw [e] at o
    intro ρ' H' vs ex r q
    match ws, vs, q, o with
    | [], _, _, o => exact o.elim
    | [_], _, _, o => exact o.elim
    | [_, _], _, _, o => exact o.elim
    | [u, v, w], _, .cons q1 (.cons q2 (.cons q3 .nil)), o => exact ⟨_, _, _, rfl, o ρ' _ H' ex ((((lr.ex ex).set i q1).set j q2).set l q3) r⟩
    | _ :: _ :: _ :: _ :: _, _, _, o => exact o.elim
  | exc c fs h1 => rw [e] at o; exact fun ρ' H' d ex r z => o ρ' σ H' d ex (lr.ex ex) r z
  | bad => rw [e] at o; exact o.elim
/-! isinstance with an own class -/
def isiA (c : Nat) : Ty → Option Bool
  | .c n => if n = c then some true else none
  | .b t => if t = "NoneType" ∨ t = "int" ∨ t = "str" ∨ t = "bool" ∨ t = "list" ∨ t = "tuple" ∨ t = "dict" then some false else none
structure IsA (K : PySem.W.Frag) (N : Nm) (c : Nat) : Prop where
  cl : Cls K (N.ca c)
  ins : PySem.W.findIn K (.ref (N.ca c)) "__class__" = some (some (.builtin "object.__class__")) ∧
    PySem.W.specialIn K (.builtin "object.__class__") "__get__" = some (some (.builtin "getset_descriptor.__get__")) ∧ PySem.W.takesIn K (.builtin "object.__class__") = some true ∧ PySem.W.mroIn K (N.ca c) (.type "object") = some true
  own : PySem.W.kitOne K (.ref (N.ca c)) (.ref (N.ca c)) = some true
  oth : ∀ t, t = "NoneType" ∨ t = "int" ∨ t = "str" ∨ t = "bool" ∨ t = "list" ∨ t = "tuple" ∨ t = "dict" → PySem.W.kitOne K (.type t) (.ref (N.ca c)) = some false
def eIsi (ans : Ty → Option Bool) (f : SE) : SE := eUn (fun x h => match tyOf h x with
  | some t => match ans t with
    | some b => .ok (.bl b) h
    | none => .bad
  | none => .bad) f
theorem r_isiC {Wx : WX} {p p2 pos : Pos} {e : PySem.Expr} {y : Str} {c : Nat} {f : SE} (A : IsA X.K N c) (gC : X.mg y = some (.ref (N.ca c))) (hm : X.mg "isinstance" = none) (he : PE X e (LE X.K N Wx f)) (hg : Gl X "isinstance" := by rfl) (hgC : Gl X y := by rfl) (hdb : (y == ("__debug__" : Str)) = false := by decide)
    (hs : starEach [e, .Name y p2] X.env = (false, eval e X.env) :: starEach [.Name y p2] X.env := by rfl) (hs2 : starEach [.Name y p2] X.env = (false, eval (.Name y p2) X.env) :: starEach [] X.env := by rfl) (hpl : (backTo pos (starEach [.Name y p2] X.env)).any (·.1) = false := by rfl) :
    PE X (.Call (.Name "isinstance" p) [e, .Name y p2] [] pos) (LE X.K N Wx (eIsi (isiA c) f)) := by
  refine PE.imp (pe_callB call_isi hg hm bt_isinstance (pa_cons he (pa_cons (pe_glob (v := .ref (N.ca c)) hgC gC rfl hdb) pa_nil hs2) hs) (by decide) (by decide) hs hpl) fun σ H Q h => ?_
  refine one_in h fun ρ ls h H x v l hr rx o => ?_
  cases et : tyOf h x with
  | none => rw [et] at o; exact o.elim
  | some t =>
    rw [et] at o
    cases eb : isiA c t with
    | none => simp only [eb] at o; exact o.elim
    | some b =>
      simp only [eb] at o
      cases t with
      | c n =>
        have z : n = c ∧ b = true := by
          unfold isiA at eb
          by_cases z : n = c
          · simp [z] at eb; exact ⟨z, eb⟩
          · simp [z] at eb
        obtain ⟨rfl, rfl⟩ := z
        exact ⟨v, .ref (N.ca n), _, _, true, rfl, .own _, ty_in hr rx et (fun n' z => by cases z; exact ⟨A.cl, A.ins⟩), A.own, o.val hr (.bl _)⟩
      | b t =>
        unfold isiA at eb
        by_cases z : t = "NoneType" ∨ t = "int" ∨ t = "str" ∨ t = "bool" ∨ t = "list" ∨ t = "tuple" ∨ t = "dict"
        · simp only [if_pos z, Option.some.injEq] at eb
          subst eb
          exact ⟨v, .ref (N.ca c), _, _, false, rfl, .own _, ty_in hr rx et (fun n' z => by cases z), A.oth t z, o.val hr (.bl _)⟩
        · simp only [if_neg z] at eb
          cases eb
theorem isA_of {K : PySem.W.Frag} {N : Nm} {c : Nat} {x : Str} (e : N.ca c = He.ga K x) (h1 : Cls K (He.ga K x)) (h2 : (Fc.ins x).ok K = true) (h3 : (Fc.kitC x x true).ok K = true)
    (t1 : (Fc.kit "NoneType" x false).ok K = true) (t2 : (Fc.kit "int" x false).ok K = true) (t3 : (Fc.kit "str" x false).ok K = true) (t4 : (Fc.kit "bool" x false).ok K = true) (t5 : (Fc.kit "list" x false).ok K = true) (t6 : (Fc.kit "tuple" x false).ok K = true) (t7 : (Fc.kit "dict" x false).ok K = true) : IsA K N c := by
  obtain ⟨i1, i⟩ := He.ba h2
  obtain ⟨i2, i⟩ := He.ba i
  obtain ⟨i3, i4⟩ := He.ba i
  refine ⟨by rw [e]; exact h1, by rw [e]; exact ⟨of_decide_eq_true i1, of_decide_eq_true i2, of_decide_eq_true i3, of_decide_eq_true i4⟩, by rw [e]; exact of_decide_eq_true h3, fun t ht => ?_⟩
  rw [e]
  rcases ht with rfl | rfl | rfl | rfl | rfl | rfl | rfl
  · exact of_decide_eq_true t1
  · exact of_decide_eq_true t2
  · exact of_decide_eq_true t3
  · exact of_decide_eq_true t4
  · exact of_decide_eq_true t5
  · exact of_decide_eq_true t6
  · exact of_decide_eq_true t7
theorem at_fld1 {c i : Nat} (h1 : Cls X.K (N.ca c)) (h2 : NoAttr X.K (N.ca c) (N.an i)) : ∀ d, AtOk X N i d (atF [c] d) := at_fld fun c' m => by
  obtain rfl := List.mem_singleton.mp m
  exact ⟨h1, h2⟩
/-- classes that have the field -/
def okF (cs : List Nat) (d : Nat) : Bool := decide (d ∈ cs)
theorem set_ok1 {c i : Nat} (h1 : Cls X.K (N.ca c)) (h2 : NoAttr X.K (N.ca c) (N.an i)) : ∀ d, okF [c] d = true → Cls X.K (N.ca d) ∧ NoAttr X.K (N.ca d) (N.an i) := set_ok fun c' m => by
  obtain rfl := List.mem_singleton.mp m
  exact ⟨h1, h2⟩
end
end Ev
set_option maxRecDepth 100000
/-! EvPost2: what must hold, for instances, while, methods of lists. -/
namespace Ev
open PySem L2
section
variable {ls : Ls} {h : Heap} {Q : W → Heap → Prop} {E : Nat → List (Nat × W) → Heap → Prop} {P : Po}
theorem calm_to {r : R} : r.calm.to Q E ↔ r.to Q fun _ _ _ => False := by cases r <;> rfl
@[simp] theorem x_fld {c i : Nat} {f : SE} : (eAttr (atF [c]) i f ls h).to Q E ↔ (f ls h).to (fun x h1 => ∃ n fs w, x = .ref n ∧ h1.get n = some (.ins c fs) ∧ fGet fs i = some w ∧ Q w h1) E := by
  unfold eAttr
  rw [x_un]
  have : ∀ (x : W) (h1 : Heap), R.to (match x with
    | .ref n => match h1.get n with
      | some (.ins d fs) => match atF [c] d with
        | .fld => match fGet fs i with
          | some w => R.ok w h1
          | none => .bad
        | .prop G => (G [.ref n] h1).calm
        | .none => .bad
      | _ => .bad
    | _ => .bad) Q E ↔ ∃ n fs w, x = .ref n ∧ h1.get n = some (.ins c fs) ∧ fGet fs i = some w ∧ Q w h1 := by
    intro x h1
    cases x with
    | ref n =>
      simp only [W.ref.injEq]
      split
      · rename_i d fs e
        by_cases z : d = c
        · subst z
          simp only [atF, List.mem_singleton, if_true]
          split
          · rename_i w e2
            constructor
            · intro q; exact ⟨n, fs, w, rfl, e, e2, q⟩
            · rintro ⟨n', fs', w', rfl, e', e2', q⟩; rw [e] at e'; cases e'; rw [e2] at e2'; cases e2'; exact q
          · rename_i e2
            constructor
            · exact False.elim
            · rintro ⟨n', fs', w', rfl, e', e2', q⟩; rw [e] at e'; cases e'; rw [e2] at e2'; cases e2'
        · simp only [atF, List.mem_singleton, if_neg z]
          constructor
          · exact False.elim
          · rintro ⟨n', fs', w', rfl, e', _⟩; rw [e] at e'; cases e'; exact (z rfl).elim
      · rename_i n1
        constructor
        · exact False.elim
        · rintro ⟨n', fs', w', rfl, e', _⟩; exact (n1 _ _ e').elim
    | _ => simp
  exact ⟨fun z => R.to_mono z (fun x h1 => (this x h1).mp) fun _ _ _ z => z, fun z => R.to_mono z (fun x h1 => (this x h1).mpr) fun _ _ _ z => z⟩
@[simp] theorem x_prp {c i : Nat} {f : SE} {G : List W → Heap → R} : (eAttr (atP c G) i f ls h).to Q E ↔ (f ls h).to (fun x h1 => ∃ n fs, x = .ref n ∧ h1.get n = some (.ins c fs) ∧ (G [.ref n] h1).to Q fun _ _ _ => False) E := by
  unfold eAttr
  rw [x_un]
  have : ∀ (x : W) (h1 : Heap), R.to (match x with
    | .ref n => match h1.get n with
      | some (.ins d fs) => match atP c G d with
        | .fld => match fGet fs i with
          | some w => R.ok w h1
          | none => .bad
        | .prop G => (G [.ref n] h1).calm
        | .none => .bad
      | _ => .bad
    | _ => .bad) Q E ↔ ∃ n fs, x = .ref n ∧ h1.get n = some (.ins c fs) ∧ (G [.ref n] h1).to Q fun _ _ _ => False := by
    intro x h1
    cases x with
    | ref n =>
      simp only [W.ref.injEq]
      split
      · rename_i d fs e
        by_cases z : d = c
        · subst z
          simp only [atP, if_true, calm_to]
          constructor
          · intro q; exact ⟨n, fs, rfl, e, q⟩
          · rintro ⟨n', fs', rfl, e', q⟩; exact q
        · simp only [atP, if_neg z]
          constructor
          · exact False.elim
          · rintro ⟨n', fs', rfl, e', _⟩; rw [e] at e'; cases e'; exact (z rfl).elim
      · rename_i n1
        constructor
        · exact False.elim
        · rintro ⟨n', fs', rfl, e', _⟩; exact (n1 _ _ e').elim
    | _ => simp
  exact ⟨fun z => R.to_mono z (fun x h1 => (this x h1).mp) fun _ _ _ z => z, fun z => R.to_mono z (fun x h1 => (this x h1).mpr) fun _ _ _ z => z⟩
@[simp] theorem s_gattr' {c i : Nat} {f : SE} {w : W} : (gAttr (okF [c]) i f w ls h).to P ↔ (f ls h).to (fun x h1 => ∃ n fs, x = .ref n ∧ h1.get n = some (.ins c fs) ∧ fs.length < 1000 ∧ P.nx ls (h1.put n (.ins c (fPut i w fs)))) fun c fs h1 => P.ex c fs ls h1 := by
  unfold gAttr
  cases f ls h with
  | ok x h1 =>
    cases x with
    | ref n =>
      simp only [to_ok, W.ref.injEq]
      split
      · rename_i d fs e
        by_cases z : d = c ∧ fs.length < 1000
        · obtain ⟨rfl, z⟩ := z
          simp only [okF, List.mem_singleton, decide_true, true_and, z, if_true, toS_nx]
          constructor
          · intro q; exact ⟨n, fs, rfl, e, z, q⟩
          · rintro ⟨n', fs', rfl, e', _, q⟩; rw [e] at e'; cases e'; exact q
        · rw [if_neg (by simpa [okF] using z)]
          constructor
          · exact False.elim
          · rintro ⟨n', fs', rfl, e', z', q⟩; rw [e] at e'; cases e'; exact (z ⟨rfl, z'⟩).elim
      · rename_i n1
        constructor
        · exact False.elim
        · rintro ⟨n', fs', rfl, e', _⟩; exact (n1 _ _ e').elim
    | _ => simp
  | exc => rfl
  | bad => rfl
@[simp] theorem x_isi {ans : Ty → Option Bool} {f : SE} : (eIsi ans f ls h).to Q E ↔ (f ls h).to (fun x h1 => ∃ t b, tyOf h1 x = some t ∧ ans t = some b ∧ Q (.bl b) h1) E := by
  unfold eIsi
  rw [x_un]
  have : ∀ (x : W) (h1 : Heap), R.to (match tyOf h1 x with
    | some t => match ans t with
      | some b => .ok (.bl b) h1
      | none => .bad
    | none => .bad) Q E ↔ ∃ t b, tyOf h1 x = some t ∧ ans t = some b ∧ Q (.bl b) h1 := by
    intro x h1
    split
    · rename_i t e
      split
      · rename_i b e2
        constructor
        · intro q; exact ⟨t, b, e, e2, q⟩
        · rintro ⟨t', b', a1, a2, q⟩; rw [e] at a1; cases a1; rw [e2] at a2; cases a2; exact q
      · rename_i e2
        constructor
        · exact False.elim
        · rintro ⟨t', b', a1, a2, q⟩; rw [e] at a1; cases a1; rw [e2] at a2; cases a2
    · rename_i e
      constructor
      · exact False.elim
      · rintro ⟨t', b', a1, a2, q⟩; rw [e] at a1; cases a1
  exact ⟨fun z => R.to_mono z (fun x h1 => (this x h1).mp) fun _ _ _ z => z, fun z => R.to_mono z (fun x h1 => (this x h1).mpr) fun _ _ _ z => z⟩
@[simp] theorem orO_none {b : Option Bool} : orO none b = b := rfl
@[simp] theorem orO_some {a : Bool} {b : Option Bool} : orO (some a) b = some a := rfl
@[simp] theorem idEq_int {idc : Nat → Bool} {i : Int} {y : W} : idEq idc h (.int i) y = none := rfl
@[simp] theorem idEq_str {idc : Nat → Bool} {i : Str} {y : W} : idEq idc h (.str i) y = none := rfl
@[simp] theorem idEq_tup {idc : Nat → Bool} {i : List W} {y : W} : idEq idc h (.tup i) y = none := rfl
@[simp] theorem idIn_int {idc : Nat → Bool} {i : Int} {y : W} : idIn idc h (.int i) y = none := rfl
@[simp] theorem idIn_str {idc : Nat → Bool} {i : Str} {y : W} : idIn idc h (.str i) y = none := rfl
theorem ofO_to {neg : Bool} {o : Option Bool} : (ofO neg o h).to Q E ↔ ∃ b, o = some b ∧ Q (.bl (if neg then !b else b)) h := by
  cases o <;> simp [ofO]
@[simp] theorem o_eqI {idc : Nat → Bool} {x y : W} : (wEqI idc x y h).to Q E ↔ ∃ b, orO (idEq idc h x y) (eqO h x y) = some b ∧ Q (.bl b) h := by unfold wEqI; rw [ofO_to]; simp
@[simp] theorem o_neI {idc : Nat → Bool} {x y : W} : (wNeI idc x y h).to Q E ↔ ∃ b, orO (idEq idc h x y) (eqO h x y) = some b ∧ Q (.bl (!b)) h := by unfold wNeI; rw [ofO_to]; simp
@[simp] theorem o_inI {idc : Nat → Bool} {x y : W} : (wInI idc x y h).to Q E ↔ ∃ b, orO (idIn idc h x y) (inO h x y) = some b ∧ Q (.bl b) h := by unfold wInI; rw [ofO_to]; simp
@[simp] theorem o_ninI {idc : Nat → Bool} {x y : W} : (wNinI idc x y h).to Q E ↔ ∃ b, orO (idIn idc h x y) (inO h x y) = some b ∧ Q (.bl (!b)) h := by unfold wNinI; rw [ofO_to]; simp
@[simp] theorem s_aug' {i : Nat} {op : W → W → Heap → R} {f : SE} : (sAug i op f ls h).to P ↔ ∃ x, ls[i]? = some (some x) ∧ (f ls h).to (fun y h1 => (op x y h1).to (fun w h2 => P.nx (ls.set i (some w)) h2) fun c fs h1 => P.ex c fs ls h1) fun c fs h1 => P.ex c fs ls h1 := by
  unfold sAug
  split
  · rename_i x e
    simp only [e, Option.some.injEq, exists_eq_left']
    cases f ls h with
    | ok y h1 =>
      simp only [R.bind_ok, to_ok]
      cases op x y h1 <;> rfl
    | exc => rfl
    | bad => rfl
  · rename_i n1
    constructor
    · exact False.elim
    · rintro ⟨x, e, _⟩; exact (n1 x e).elim
@[simp] theorem o_iadd_int {i j : Int} : (wIadd (.int i) (.int j) h).to Q E ↔ Q (.int (i + j)) h := Iff.rfl
@[simp] theorem s_bad' : (sBad ls h).to P ↔ False := Iff.rfl
@[simp] theorem o_append {n : Nat} {w : W} : (mAppend (.ref n) [w] h).to Q E ↔ ∃ xs, h.get n = some (.lst xs) ∧ xs.length < sizeLine ∧ Q .non (h.put n (.lst (xs ++ [w]))) := by
  show R.to (match h.get n with
    | some (.lst xs) => if xs.length < sizeLine then .ok .non (h.put n (.lst (xs ++ [w]))) else .bad
    | _ => .bad) Q E ↔ _
  split
  · rename_i xs e
    rw [to_ifb]
    constructor
    · rintro ⟨z, q⟩; exact ⟨xs, e, z, q⟩
    · rintro ⟨xs', e', z, q⟩; rw [e] at e'; cases e'; exact ⟨z, q⟩
  · rename_i n1
    constructor
    · exact False.elim
    · rintro ⟨xs, e, _⟩; exact (n1 xs e).elim
/-- a while, by an invariant with a measure -/
theorem while_inv {t : SB} {s : SS} (J : Nat → Ls → Heap → Prop) (step : ∀ m ls h, J m ls h → (t ls h).to (fun b h1 => (b = true → (s ls h1).to { nx := fun ls' h' => ∃ m' < m, J m' ls' h', ct := fun ls' h' => ∃ m' < m, J m' ls' h', bk := P.nx, rt := P.rt, ex := P.ex }) ∧ (b = false → P.nx ls h1)) fun c fs h1 => P.ex c fs ls h1) :
    ∀ (n m : Nat) (ls : Ls) (h : Heap), m < n → J m ls h → (whileL t s n ls h).to P
  | 0, m, ls, h, lt, _ => absurd lt (Nat.not_lt_zero m)
  | n + 1, m, ls, h, lt, j => by
    have z := step m ls h j
    rw [whileL]
    cases e : t ls h with
    | ok b h1 =>
      rw [e] at z
      cases b with
      | true =>
        have z := z.1 rfl
        simp only
        cases e2 : s ls h1 with
        | nx ls2 h2 => rw [e2] at z; obtain ⟨m', l, j'⟩ := z; exact while_inv J step n m' ls2 h2 (by omega) j'
        | ct ls2 h2 => rw [e2] at z; obtain ⟨m', l, j'⟩ := z; exact while_inv J step n m' ls2 h2 (by omega) j'
        | bk ls2 h2 => rw [e2] at z; exact z
        | rt w h2 => rw [e2] at z; exact z
        | exc c fs ls2 h2 => rw [e2] at z; exact z
        | bad => rw [e2] at z; exact z
      | false => exact z.2 rfl
    | exc c fs h1 => rw [e] at z; exact z
    | bad => rw [e] at z; exact z
@[simp high] theorem s_par2q {i j : Nat} {gs : SEs} : (sPar2 i j gs ls h).to P ↔ (gs ls h).to (fun xs h1 => match xs with
    | [v, w] => P.nx ((ls.set i (some v)).set j (some w)) h1
    | _ => False) fun c fs h1 => P.ex c fs ls h1 := by
  unfold sPar2
  cases gs ls h with
  | ok xs h1 =>
    match xs with
    | [] => rfl
    | [_] => rfl
    | [v, w] => rfl
    | _ :: _ :: _ :: _ => rfl
  | exc => rfl
  | bad => rfl
@[simp] theorem s_par3q {i j l : Nat} {gs : SEs} : (sPar3 i j l gs ls h).to P ↔ (gs ls h).to (fun xs h1 => match xs with
    | [v, w, u] => P.nx (((ls.set i (some v)).set j (some w)).set l (some u)) h1
    | _ => False) fun c fs h1 => P.ex c fs ls h1 := by
  unfold sPar3
  cases gs ls h with
  | ok xs h1 =>
    match xs with
    | [] => rfl
    | [_] => rfl
    | [_, _] => rfl
    | [v, w, u] => rfl
    | _ :: _ :: _ :: _ :: _ => rfl
  | exc => rfl
  | bad => rfl
end
end Ev
set_option maxRecDepth 100000
namespace EvF
open PySem L2 Ev
def s_is_letter : SS := sRet (eOr (eChain wLe2 wLe2 (eW (.str "a")) (eVar 0) (eW (.str "z"))) (eChain wLe2 wLe2 (eW (.str "A")) (eVar 0) (eW (.str "Z"))))
@[irreducible] def F_is_letter : List W → Ev.Heap → R := fnOf 1 1 s_is_letter
def s_is_kind : SS := sSeq (sIf (bOr (bNot (bTru (eB (bIsi clNo) (aCons (eVar 0) (aCons (eW (.ty "str")) (aNil)))))) (bNot (bVal (eChain wLe2 wLe2 (eW (.int 1)) (eB bLen (aCons (eVar 0) (aNil))) (eW (.int 12)))))) (sRet (eW (.bl false))) (sNil)) (sRet (eAnd (eChain wLe2 wLe2 (eW (.str "A")) (eBin wIx (eVar 0) (eW (.int 0))) (eW (.str "Z"))) (eB bAll (aCons (eComp [1] (.one 1) (iSeq (eVar 0)) (bYes) (eCall (fun xs ys h => F_is_letter (pick [(false, 0)] xs ys) h) 1 0 (aCons (eVar 1) (aNil)) (aNil))) (aNil)))))
@[irreducible] def F_is_kind : List W → Ev.Heap → R := fnOf 1 2 s_is_kind
def s_is_label : SS := sSeq (sIf (bOr (bNot (bTru (eB (bIsi clNo) (aCons (eVar 0) (aCons (eW (.ty "str")) (aNil)))))) (bVal (eBin wGt2 (eB bLen (aCons (eVar 0) (aNil))) (eW (.int 40))))) (sRet (eW (.bl false))) (sNil)) (sRet (eB bAll (aCons (eComp [1] (.one 1) (iSeq (eVar 0)) (bYes) (eAnd (eChain wLe2 wLe2 (eW (.int 32)) (eB bOrd (aCons (eVar 1) (aNil))) (eW (.int 126))) (eBin wNe (eB bOrd (aCons (eVar 1) (aNil))) (eW (.int 37))))) (aNil))))
@[irreducible] def F_is_label : List W → Ev.Heap → R := fnOf 1 2 s_is_label
def s_Fault___init__ : SS := sSeq (sIf (bNot (bTru (eCall (fun xs ys h => F_is_kind (pick [(false, 0)] xs ys) h) 1 0 (aCons (eVar 1) (aNil)) (aNil)))) (sBad) (sNil)) (sSeq (sIf (bNot (bTru (eCall (fun xs ys h => F_is_label (pick [(false, 0)] xs ys) h) 1 0 (aCons (eVar 2) (aNil)) (aNil)))) (sBad) (sNil)) (sSeq (sIf (bOr (bNot (bTru (eB (bIsi clNo) (aCons (eVar 3) (aCons (eW (.ty "int")) (aNil)))))) (bOr (bTru (eB (bIsi clNo) (aCons (eVar 3) (aCons (eW (.ty "bool")) (aNil))))) (bVal (eBin wLt2 (eVar 3) (eW (.int 0)))))) (sBad) (sNil)) (sSeq (sAsg (eTup (aCons (eVar 1) (aCons (eVar 2) (aCons (eVar 3) (aNil))))) (gTp [gAttr (okF [0]) 0 (eVar 0), gAttr (okF [0]) 1 (eVar 0), gAttr (okF [0]) 2 (eVar 0)])) (sSeq (sAsg (eW .non) (gAttr (okF [0]) 3 (eVar 0))) (sSeq (sAsg (eW .non) (gAttr (okF [0]) 4 (eVar 0))) (sAsg (eW (.bl false)) (gAttr (okF [0]) 5 (eVar 0))))))))
@[irreducible] def F_Fault___init__ : List W → Ev.Heap → R := fnOf 4 4 s_Fault___init__
def s_Fault_kind : SS := sRet (eAttr (atF [0]) 0 (eVar 0))
@[irreducible] def F_Fault_kind : List W → Ev.Heap → R := fnOf 1 1 s_Fault_kind
def s_Fault_label : SS := sRet (eAttr (atF [0]) 1 (eVar 0))
@[irreducible] def F_Fault_label : List W → Ev.Heap → R := fnOf 1 1 s_Fault_label
def s_Fault_number : SS := sRet (eAttr (atF [0]) 2 (eVar 0))
@[irreducible] def F_Fault_number : List W → Ev.Heap → R := fnOf 1 1 s_Fault_number
def s_Fault_context : SS := sRet (eAttr (atF [0]) 3 (eVar 0))
@[irreducible] def F_Fault_context : List W → Ev.Heap → R := fnOf 1 1 s_Fault_context
def s_Fault_cause : SS := sRet (eAttr (atF [0]) 4 (eVar 0))
@[irreducible] def F_Fault_cause : List W → Ev.Heap → R := fnOf 1 1 s_Fault_cause
def s_Fault_hides : SS := sRet (eAttr (atF [0]) 5 (eVar 0))
@[irreducible] def F_Fault_hides : List W → Ev.Heap → R := fnOf 1 1 s_Fault_hides
def s_need_fault : SS := sIf (bNot (bTru (eIsi (isiA 0) (eVar 0)))) (sBad) (sNil)
@[irreducible] def F_need_fault : List W → Ev.Heap → R := fnOf 1 1 s_need_fault
def s_need_fault_or_none : SS := sIf (bVal (eBin wIsnt (eVar 0) (eW .non))) (sExpr (eCall (fun xs ys h => F_need_fault (pick [(false, 0)] xs ys) h) 1 0 (aCons (eVar 0) (aNil)) (aNil))) (sNil)
@[irreducible] def F_need_fault_or_none : List W → Ev.Heap → R := fnOf 1 1 s_need_fault_or_none
def s_raise_under : SS := sSeq (sExpr (eCall (fun xs ys h => F_need_fault (pick [(false, 0)] xs ys) h) 1 0 (aCons (eVar 0) (aNil)) (aNil))) (sSeq (sExpr (eCall (fun xs ys h => F_need_fault_or_none (pick [(false, 0)] xs ys) h) 1 0 (aCons (eVar 1) (aNil)) (aNil))) (sSeq (sIf (bOr (bVal (eBin wIs (eVar 1) (eW .non))) (bVal (eBin (wEqI idF) (eVar 1) (eVar 0)))) (sRetN) (sNil)) (sSeq (sAsg (eVar 1) (gNm 2)) (sSeq (whileL (bAnd (bVal (eBin wIsnt (eAttr (atF [0]) 3 (eVar 2)) (eW .non))) (bVal (eBin (wNeI idF) (eAttr (atF [0]) 3 (eVar 2)) (eVar 0)))) (sAsg (eAttr (atF [0]) 3 (eVar 2)) (gNm 2)) 100000) (sSeq (sAsg (eW .non) (gAttr (okF [0]) 3 (eVar 2))) (sAsg (eVar 1) (gAttr (okF [0]) 3 (eVar 0))))))))
@[irreducible] def F_raise_under : List W → Ev.Heap → R := fnOf 2 3 s_raise_under
def s_with_cause : SS := sSeq (sExpr (eCall (fun xs ys h => F_need_fault (pick [(false, 0)] xs ys) h) 1 0 (aCons (eVar 0) (aNil)) (aNil))) (sSeq (sExpr (eCall (fun xs ys h => F_need_fault_or_none (pick [(false, 0)] xs ys) h) 1 0 (aCons (eVar 1) (aNil)) (aNil))) (sSeq (sAsg (eVar 1) (gAttr (okF [0]) 4 (eVar 0))) (sAsg (eW (.bl true)) (gAttr (okF [0]) 5 (eVar 0)))))
@[irreducible] def F_with_cause : List W → Ev.Heap → R := fnOf 2 2 s_with_cause
def s_number_of : SS := sRet (eIf (bVal (eBin wIs (eVar 0) (eW .non))) (eW .non) (eAttr (atP 0 F_Fault_number) 8 (eVar 0)))
@[irreducible] def F_number_of : List W → Ev.Heap → R := fnOf 1 1 s_number_of
def s_rows_of_1 : SS := sFor (.one 3) (iSeq (eTup (aCons (eAttr (atF [0]) 4 (eBin wIx (eVar 1) (eVar 2))) (aCons (eAttr (atF [0]) 3 (eBin wIx (eVar 1) (eVar 2))) (aNil))))) (sIf (bAnd (bVal (eBin wIsnt (eVar 3) (eW .non))) (bVal (eBin (wNinI idF) (eVar 3) (eVar 1)))) (sExpr (eBm "list" mAppend (eVar 1) (aCons (eVar 3) (aNil)))) (sNil))
def s_rows_of_2 : SS := sAug 2 wIadd (eW (.int 1))
def s_rows_of_3 : SS := sExpr (eCall (fun xs ys h => F_need_fault (pick [(false, 0)] xs ys) h) 1 0 (aCons (eVar 0) (aNil)) (aNil))
def s_rows_of_4 : SS := sAsg (eLst (aCons (eVar 0) (aNil))) (gNm 1)
def s_rows_of_5 : SS := sAsg (eW (.int 0)) (gNm 2)
def s_rows_of_6 : SS := whileL (bVal (eBin wLt2 (eVar 2) (eB bLen (aCons (eVar 1) (aNil))))) (sSeq (s_rows_of_1) (s_rows_of_2)) 100000
def s_rows_of_7 : SS := sRet (eComp [4] (.one 4) (iSeq (eVar 1)) (bYes) (eTup (aCons (eAttr (atP 0 F_Fault_number) 8 (eVar 4)) (aCons (eAttr (atP 0 F_Fault_kind) 6 (eVar 4)) (aCons (eAttr (atP 0 F_Fault_label) 7 (eVar 4)) (aCons (eCall (fun xs ys h => F_number_of (pick [(false, 0)] xs ys) h) 1 0 (aCons (eAttr (atP 0 F_Fault_context) 9 (eVar 4)) (aNil)) (aNil)) (aCons (eCall (fun xs ys h => F_number_of (pick [(false, 0)] xs ys) h) 1 0 (aCons (eAttr (atP 0 F_Fault_cause) 10 (eVar 4)) (aNil)) (aNil)) (aCons (eAttr (atP 0 F_Fault_hides) 11 (eVar 4)) (aNil)))))))))
def s_rows_of : SS := sSeq (s_rows_of_3) (sSeq (s_rows_of_4) (sSeq (s_rows_of_5) (sSeq (s_rows_of_6) (s_rows_of_7))))
@[irreducible] def F_rows_of : List W → Ev.Heap → R := fnOf 1 5 s_rows_of
end EvF
set_option maxRecDepth 100000
/-! EvTxt: texts: their methods, numbers as texts; stars in displays; lists turned round. -/
namespace Ev
open PySem L2 PySem.Spec PyProof.Rows
def mStarts : W → List W → Heap → R
  | .str a, [.str b], h => .ok (.bl (Txt.startswith a b)) h
  | _, _, _ => .bad
def mEnds : W → List W → Heap → R
  | .str a, [.str b], h => .ok (.bl (Txt.endswith a b)) h
  | _, _, _ => .bad
def mPart : W → List W → Heap → R
  | .str a, [.str b], h => if (b.length == 0) = false ∧ a.length ≤ sizeLine then .ok (.tup [.str (Txt.partition a b).1, .str (Txt.partition a b).2.1, .str (Txt.partition a b).2.2]) h else .bad
  | _, _, _ => .bad
/-- what rpartition gives -/
def rpart (a b : Str) : Str × Str × Str := match Builtin.Str.lastOccurrence a b 0 a.length with
  | some i => (Builtin.Str.strSub a 0 i, b, Builtin.Str.strSub a (i + b.length) a.length)
  | none => (Str.empty, Str.empty, a)
def mRpart : W → List W → Heap → R
  | .str a, [.str b], h => if (b.length == 0) = false ∧ a.length ≤ sizeLine then .ok (.tup [.str (rpart a b).1, .str (rpart a b).2.1, .str (rpart a b).2.2]) h else .bad
  | _, _, _ => .bad
def mSplit : W → List W → Heap → R
  | .str a, [.str b], h => if (b.length == 0) = false ∧ a.length + 2 ≤ sizeLine then .ok (.ref h.nx) (h.new (.lst ((Txt.split a b).map W.str))) else .bad
  | _, _, _ => .bad
def mInsert : W → List W → Heap → R
  | .ref n, [.int i, w], h => match h.get n with
    | some (.lst xs) => if xs.length < sizeLine ∧ 0 ≤ i ∧ i < 2 ^ 63 then .ok .non (h.put n (.lst (xs.take i.toNat ++ [w] ++ xs.drop i.toNat))) else .bad
    | _ => .bad
  | _, _, _ => .bad
/-- int(..) -/
def bInt : List W → Heap → R
  | [.int i], h => .ok (.int i) h
  | [.bl b], h => .ok (.int (if b then 1 else 0)) h
  | [.str s], h => match PySem.intText? s with
    | some n => if s.length ≤ 640 then .ok (.int n) h else .bad
    | none => .bad
  | _, _ => .bad
/-- str(..) of an int -/
def bStr : List W → Heap → R
  | [.int i], h => if i.natAbs.log2 < 1920 then .ok (.str (toString i)) h else .bad
  | _, _ => .bad
section
variable {X : Cx} {N : Nm}
theorem two_strs {K : PySem.W.Frag} {ρ : List Addr} {H : Hp} {a b : Str} {v : V} {vs : List V} (r : VR K ρ H (.str a) v) (rs : VRs K ρ H [.str b] vs) : v = .str a ∧ vs = [.str b] := by
  cases r
  cases rs with
  | cons q r2 => cases q; cases r2; exact ⟨rfl, rfl⟩
theorem okm_starts : BmOk X N "str.startswith" mStarts := by
  refine ⟨_, mt_startswith, fun ρ h H w ws v vs Q E hr r rs o => ?_⟩
  unfold mStarts at o
  split at o
  · obtain ⟨rfl, rfl⟩ := two_strs r rs
    exact ⟨_, _, rfl, rfl, o.val hr (.bl _)⟩
  · exact o.elim
theorem okm_ends : BmOk X N "str.endswith" mEnds := by
  refine ⟨_, mt_endswith, fun ρ h H w ws v vs Q E hr r rs o => ?_⟩
  unfold mEnds at o
  split at o
  · obtain ⟨rfl, rfl⟩ := two_strs r rs
    exact ⟨_, _, rfl, rfl, o.val hr (.bl _)⟩
  · exact o.elim
/-- three texts as a new tuple -/
theorem out3 {K : PySem.W.Frag} {N : Nm} {ρ : List Addr} {h : Heap} {H : Hp} {x y z : Str} {Q : VK} {E : XK} {p : Addr} (hr : HR K N ρ h H) (o : Out K N ρ H (.ok (.tup [.str x, .str y, .str z]) h) Q E) (hn : H p = none) : Q (.ref p) (upd H p (.tup [.str x, .str y, .str z])) :=
  o ρ _ _ (Ex.other hn) (hr.other hn) (.tup (.inl (.inl upd_same)) (.cons (.str _) (.cons (.str _) (.cons (.str _) .nil))))
theorem okm_part : BmOk X N "str.partition" mPart := by
  refine ⟨_, mt_partition, fun ρ h H w ws v vs Q E hr r rs o => ?_⟩
  unfold mPart at o
  split at o
  · obtain ⟨rfl, rfl⟩ := two_strs r rs
    split at o
    · rename_i c
      exact ⟨_, _, rfl, rfl, c.1, c.2, fun p hn => out3 hr o hn⟩
    · exact o.elim
  · exact o.elim
def rRpart : V → List V → Hp → VK → Prop := fun x xs H Q => ∃ a b, x = .str a ∧ xs = [.str b] ∧ ((b.length == 0) = false ∧ a.length ≤ sizeLine) ∧ ∀ p, H p = none → Q (.ref p) (upd H p (.tup [.str (rpart a b).1, .str (rpart a b).2.1, .str (rpart a b).2.2]))
theorem mt_rpart : MtR X "str.rpartition" rRpart := by
  intro pins s σ H x xs v us Q I r1 r2 ⟨a, b, e1, e2, ⟨c1, c2⟩, q⟩
  subst e1 e2
  obtain ⟨t, rfl⟩ := r1
  cases r2 with
  | cons q1 q2 =>
    cases q2
    obtain ⟨u, rfl⟩ := q1
    have m := meets_str_rpartition a b t u c1 c2
    refine call_meets F.slot_str_rpartition (typeIs_str _ _ _) F.entry_str_rpartition (F.args_str_rpartition_2 _ _) m ?_
    unfold rpart at q
    revert q
    cases Builtin.Str.lastOccurrence a b 0 a.length <;> exact fun q => laid_parts I q
theorem okm_rpart : BmOk X N "str.rpartition" mRpart := by
  refine ⟨_, mt_rpart, fun ρ h H w ws v vs Q E hr r rs o => ?_⟩
  unfold mRpart at o
  split at o
  · obtain ⟨rfl, rfl⟩ := two_strs r rs
    split at o
    · rename_i c
      exact ⟨_, _, rfl, rfl, c, fun p hn => out3 hr o hn⟩
    · exact o.elim
  · exact o.elim
theorem vrs_strs {K : PySem.W.Frag} {ρ : List Addr} {H : Hp} : ∀ ys : List Str, VRs K ρ H (ys.map W.str) (ys.map V.str)
  | [] => .nil
  | y :: ys => .cons (.str y) (vrs_strs ys)
theorem okm_split : BmOk X N "str.split" mSplit := by
  refine ⟨_, mt_split, fun ρ h H w ws v vs Q E hr r rs o => ?_⟩
  unfold mSplit at o
  split at o
  · obtain ⟨rfl, rfl⟩ := two_strs r rs
    split at o
    · rename_i c
      exact ⟨_, _, rfl, rfl, c.1, c.2, fun p hn => o (ρ ++ [p]) _ _ (Ex.alloc hn) (hr.new hn (.lst (vrs_strs _))) (.ref (hr.at_new p))⟩
    · exact o.elim
  · exact o.elim
theorem okm_insert : BmOk X N "list.insert" mInsert := by
  refine ⟨_, mt_insert, fun ρ h H w ws v vs Q E hr r rs o => ?_⟩
  unfold mInsert at o
  split at o
  · cases r with
    | ref q =>
      cases rs with
      | cons r1 r2 => cases r2 with
        | cons r2 r3 =>
          cases r1
          cases r3
          split at o
          · rename_i xs e
            split at o
            · rename_i c
              obtain ⟨ys, h1, h2⟩ := lst_mut hr e q
              obtain ⟨w1, w2⟩ := hr.setL q h1 (((h2.take _).append (.cons r2 .nil)).append (h2.drop _))
              exact ⟨_, ys, _, _, rfl, rfl, h1, by rw [← h2.length]; exact c.1, c.2.1, c.2.2, o ρ _ _ (Ex.put q w2) w1 .non⟩
            · exact o.elim
          · exact o.elim
  · exact o.elim
theorem CalR_or {f : Value} {r r' : List V → Hp → VK → Prop} (a : CallR X f r) (b : CallR X f r') : CallR X f fun vs H Q => r vs H Q ∨ r' vs H Q := fun pins s σ H xs us Q I q h => h.elim (a pins s σ H xs us Q I q) (b pins s σ H xs us Q I q)
theorem okb_int : CalOk X N (.type "int") bInt := by
  refine ⟨_, CalR_or call_int1 call_int_str, fun ρ h H ws vs Q E hr r o => ?_⟩
  unfold bInt at o
  split at o
  · cases r with | cons q r => cases r; cases q; exact .inl (.inl ⟨_, rfl, o.val hr (.int _)⟩)
  · cases r with | cons q r => cases r; cases q; exact .inl (.inr ⟨_, rfl, o.val hr (.int _)⟩)
  · cases r with
    | cons q r =>
      cases r; cases q
      split at o
      · rename_i n e
        split at o
        · rename_i c
          exact .inr ⟨_, n, rfl, e, c, o.val hr (.int _)⟩
        · exact o.elim
      · exact o.elim
  · exact o.elim
theorem okb_str : CalOk X N (.type "str") bStr := by
  refine ⟨_, call_str_int, fun ρ h H ws vs Q E hr r o => ?_⟩
  unfold bStr at o
  split at o
  · cases r with
    | cons q r =>
      cases r; cases q
      split at o
      · rename_i c
        exact ⟨_, rfl, c, o.val hr (.str _)⟩
      · exact o.elim
  · exact o.elim
end
/-! ### xs[::-1], *xs in a display -/
def eRev (f : SE) : SE := fun ls h => (f ls h).bind fun x h1 => match seqW h1 x with
  | some xs => .ok (.ref h1.nx) (h1.new (.lst xs.reverse))
  | none => .bad
/-- the items of a tuple, a list -/
def itemsW (h : Heap) : W → Option (List W)
  | .tup xs => some xs
  | x => seqW h x
def aStar (f : SE) (g : SEs) : SEs := fun ls h => match f ls h with
  | .ok x h1 => match itemsW h1 x with
    | some xs => match g ls h1 with
      | .ok ys h2 => .ok (xs ++ ys) h2
      | .exc c fs h2 => .exc c fs h2
      | .bad => .bad
    | none => .bad
  | .exc c fs h1 => .exc c fs h1
  | .bad => .bad
section
variable {X : Cx} {N : Nm} {Wx : WX} {pos p p1 p2 p3 : Pos} {e : PySem.Expr} {es : List PySem.Expr} {f : SE} {g : SEs} {k : Nat}
theorem r_rev (ha : PE X e (LE X.K N Wx f)) : PE X (.Subscript e (.Slice none none (some (.UnaryOp .USub (.Constant (.int 1) k p1) p2)) p3) pos) (LE X.K N Wx (eRev f)) := by
  refine PE.imp (pe_revL ha) fun σ H Q ⟨ρ, ls, hp, l, hr, o⟩ => ⟨ρ, ls, hp, l, hr, ?_⟩
  refine (Out.bind o).mono (fun v H1 ⟨ρ1, x, h1, e1, hr1, rx, o1⟩ => ?_) fun _ _ _ z => z
  split at o1
  · rename_i xs ex
    obtain ⟨a, ys, rfl, s1, s2⟩ := seqW_in hr1 ex rx
    refine ⟨a, ys, rfl, s1, fun q hn => ?_⟩
    exact o1 (ρ1 ++ [q]) _ _ (Ex.alloc hn) (hr1.new hn (.lst (s2.reverse.mono (List.prefix_append _ _) (HE.new hn)))) (.ref (hr1.at_new q))
  · exact o1.elim
theorem itemsW_in {K : PySem.W.Frag} {N : Nm} {ρ : List Addr} {h : Heap} {H : Hp} {w : W} {v : V} {xs : List W} (hr : HR K N ρ h H) (q : itemsW h w = some xs) (r : VR K ρ H w v) : ∃ a ys, v = .ref a ∧ (SqT K H a ys ∨ SqL K H a ys) ∧ VRs K ρ H xs ys := by
  cases r with
  | tup s r => cases q; exact ⟨_, _, rfl, .inl s, r⟩
  | fl s r => obtain ⟨a, ys, z, s1, s2⟩ := seqW_in (h := h) (xs := xs) hr (by exact q) (.fl s r); exact ⟨a, ys, z, .inr s1, s2⟩
  | ref s => obtain ⟨a, ys, z, s1, s2⟩ := seqW_in (h := h) (xs := xs) hr (by exact q) (.ref s); exact ⟨a, ys, z, .inr s1, s2⟩
  | _ => cases q
theorem ra_star (ha : PE X e (LE X.K N Wx f)) (hr : PA X es (LA X.K N Wx g)) (hs : starEach (.Starred e p :: es) X.env = (true, eval e X.env) :: starEach es X.env := by rfl) : PA X (.Starred e p :: es) (LA X.K N Wx (aStar f g)) := by
  refine PA.imp (StX.pa_star ha hr hs) fun σ H Q ⟨ρ, ls, hp, l, hr, o⟩ => ⟨ρ, ls, hp, l, hr, ?_⟩
  unfold aStar at o
  cases e1 : f ls hp with
  | exc c fs h1 => rw [e1] at o; exact o
  | bad => rw [e1] at o; exact o.elim
  | ok x h1 =>
    rw [e1] at o
    simp only at o
    cases e2 : itemsW h1 x with
    | none => rw [e2] at o; exact o.elim
    | some xs =>
      rw [e2] at o
      intro ρ' H' v ex r rx
      obtain ⟨a, ys, rfl, s1, s2⟩ := itemsW_in r e2 rx
      refine ⟨a, ys, rfl, s1, ρ', ls, h1, l.ex ex, r, ?_⟩
      simp only at o
      cases e3 : g ls h1 with
      | ok zs h2 =>
        rw [e3] at o
        exact fun ρ2 H2 us ex2 r2 rz => o ρ2 H2 _ (ex.trans ex2) r2 ((s2.ex ex2).append rz)
      | exc c fs h2 =>
        rw [e3] at o
        exact fun ρ2 H2 d ex2 r2 rz => o ρ2 H2 d (ex.trans ex2) r2 rz
      | bad => rw [e3] at o; exact o.elim
end
/-! ### what must hold -/
section
variable {ls : Ls} {h : Heap} {Q : W → Heap → Prop} {E : Nat → List (Nat × W) → Heap → Prop} {a b : Str}
@[simp] theorem o_starts : (mStarts (.str a) [.str b] h).to Q E ↔ Q (.bl (Txt.startswith a b)) h := Iff.rfl
@[simp] theorem o_ends : (mEnds (.str a) [.str b] h).to Q E ↔ Q (.bl (Txt.endswith a b)) h := Iff.rfl
@[simp] theorem o_part : (mPart (.str a) [.str b] h).to Q E ↔ ((b.length == 0) = false ∧ a.length ≤ sizeLine) ∧ Q (.tup [.str (Txt.partition a b).1, .str (Txt.partition a b).2.1, .str (Txt.partition a b).2.2]) h := by unfold mPart; rw [to_ifb]; rfl
@[simp] theorem o_rpart : (mRpart (.str a) [.str b] h).to Q E ↔ ((b.length == 0) = false ∧ a.length ≤ sizeLine) ∧ Q (.tup [.str (rpart a b).1, .str (rpart a b).2.1, .str (rpart a b).2.2]) h := by unfold mRpart; rw [to_ifb]; rfl
@[simp] theorem o_split : (mSplit (.str a) [.str b] h).to Q E ↔ ((b.length == 0) = false ∧ a.length + 2 ≤ sizeLine) ∧ Q (.ref h.nx) (h.new (.lst ((Txt.split a b).map W.str))) := by unfold mSplit; rw [to_ifb]; rfl
@[simp] theorem o_insert {n : Nat} {i : Int} {w : W} : (mInsert (.ref n) [.int i, w] h).to Q E ↔ ∃ xs, h.get n = some (.lst xs) ∧ (xs.length < sizeLine ∧ 0 ≤ i ∧ i < 2 ^ 63) ∧ Q .non (h.put n (.lst (xs.take i.toNat ++ [w] ++ xs.drop i.toNat))) := by
  show R.to (match h.get n with
    | some (.lst xs) => if xs.length < sizeLine ∧ 0 ≤ i ∧ i < 2 ^ 63 then .ok .non (h.put n (.lst (xs.take i.toNat ++ [w] ++ xs.drop i.toNat))) else .bad
    | _ => .bad) Q E ↔ _
  split
  · rename_i xs e
    rw [to_ifb]
    exact ⟨fun ⟨z, q⟩ => ⟨xs, e, z, q⟩, fun ⟨ys, e', z, q⟩ => by rw [e] at e'; cases e'; exact ⟨z, q⟩⟩
  · rename_i n1
    exact ⟨False.elim, fun ⟨xs, e, _⟩ => (n1 xs e).elim⟩
@[simp] theorem o_int_i {i : Int} : (bInt [.int i] h).to Q E ↔ Q (.int i) h := Iff.rfl
@[simp] theorem o_int_b {c : Bool} : (bInt [.bl c] h).to Q E ↔ Q (.int (if c then 1 else 0)) h := Iff.rfl
@[simp] theorem o_int_s : (bInt [.str a] h).to Q E ↔ ∃ n, PySem.intText? a = some n ∧ a.length ≤ 640 ∧ Q (.int n) h := by
  show R.to (match PySem.intText? a with
    | some n => if a.length ≤ 640 then .ok (.int n) h else .bad
    | none => .bad) Q E ↔ _
  cases PySem.intText? a with
  | none => simp
  | some n => simp only [Option.some.injEq, exists_eq_left']; rw [to_ifb]; rfl
@[simp] theorem o_strI {i : Int} : (bStr [.int i] h).to Q E ↔ i.natAbs.log2 < 1920 ∧ Q (.str (toString i)) h := by unfold bStr; rw [to_ifb]; rfl
@[simp] theorem x_rev {f : SE} : (eRev f ls h).to Q E ↔ (f ls h).to (fun x h1 => ∃ xs, seqW h1 x = some xs ∧ Q (.ref h1.nx) (h1.new (.lst xs.reverse))) E := by
  unfold eRev
  rw [to_bind]
  cases f ls h with
  | ok x h1 =>
    show R.to (match seqW h1 x with | some xs => _ | none => .bad) Q E ↔ ∃ xs, seqW h1 x = some xs ∧ _
    cases seqW h1 x <;> simp
  | exc => rfl
  | bad => rfl
@[simp] theorem xs_star {f : SE} {g : SEs} {Q : List W → Heap → Prop} : (aStar f g ls h).to Q E ↔ (f ls h).to (fun x h1 => ∃ xs, itemsW h1 x = some xs ∧ (g ls h1).to (fun ys h2 => Q (xs ++ ys) h2) E) E := by
  unfold aStar
  cases f ls h with
  | ok x h1 =>
    simp only [to_ok]
    cases itemsW h1 x with
    | none => simp
    | some xs =>
      simp only [Option.some.injEq, exists_eq_left']
      cases g ls h1 <;> rfl
  | exc => rfl
  | bad => rfl
@[simp] theorem itemsW_tup {xs : List W} : itemsW h (.tup xs) = some xs := rfl
@[simp] theorem x_sl {f : SE} {lo hi : SO} : (eSl f lo hi ls h).to Q E ↔ (f ls h).to (fun x h1 => match lo ls h1 with
    | some (l, h2) => match hi ls h2 with
      | some (u, h3) => (wSl x l u h3).to Q E
      | none => False
    | none => False) E := by
  unfold eSl
  rw [to_bind]
  cases f ls h with
  | ok x h1 =>
    simp only [to_ok]
    cases lo ls h1 with
    | none => rfl
    | some p =>
      obtain ⟨l, h2⟩ := p
      simp only
      cases hi ls h2 <;> rfl
  | exc => rfl
  | bad => rfl
@[simp] theorem oNone_eq : oNone ls h = some (none, h) := rfl
@[simp] theorem oSome_int {i : Int} : oSome (eW (.int i)) ls h = some (some i, h) := rfl
@[simp] theorem oSome_neg {i : Int} : oSome (eUn wNeg (eW (.int i))) ls h = some (some (-i), h) := rfl
theorem oSome_of {f : SE} {i : Int} {h1 : Heap} (e : f ls h = .ok (.int i) h1) : oSome f ls h = some (some i, h1) := by simp [oSome, e]
@[simp] theorem o_sl_s {l u : Option Int} : (wSl (.str a) l u h).to Q E ↔ a.length ≤ sizeLine ∧ Q (.str (cutS a l u)) h := by unfold wSl; rw [to_ifb]; rfl
@[simp] theorem o_sl_tup {xs : List W} {l u : Option Int} : (wSl (.tup xs) l u h).to Q E ↔ Q (.tup (wCut xs l u)) h := Iff.rfl
@[simp] theorem o_sl_ref {n : Nat} {l u : Option Int} : (wSl (.ref n) l u h).to Q E ↔ ∃ xs, h.get n = some (.lst xs) ∧ Q (.ref h.nx) (h.new (.lst (wCut xs l u))) := by
  simp only [← lstAt_iff]
  show R.to (match lstAt h n with | some xs => .ok (.ref h.nx) (h.new (.lst (wCut xs l u))) | none => .bad) Q E ↔ _
  cases lstAt h n <;> simp
theorem strsOf_map : ∀ ys : List Str, strsOf (ys.map W.str) = some ys
  | [] => rfl
  | y :: ys => by simp [strsOf, strsOf_map ys]
theorem join_to {k : Nat} {ys : List Str} (e : h.get k = some (.lst (ys.map W.str))) (hz : (ys.map (·.length)).sum + ys.length * a.length ≤ 16777216) (q : Q (.str (Txt.join a ys)) h) : (mJoin (.str a) [.ref k] h).to Q E := by
  have e1 : seqW h (.ref k) = some (ys.map W.str) := seqW_ref.mpr e
  have : mJoin (.str a) [.ref k] h = .ok (.str (Txt.join a ys)) h := by
    simp only [mJoin, e1, Option.bind_some, strsOf_map]
    rw [if_pos hz]
  rw [this]; exact q
theorem sum_le {B : Nat} : ∀ l : List Str, (∀ s ∈ l, s.length ≤ B) → (l.map (·.length)).sum ≤ l.length * B
  | [], _ => by simp
  | a :: l, h => by
    have h1 := sum_le l fun s m => h s (List.mem_cons_of_mem _ m)
    have h2 := h a (by simp)
    simp only [List.map_cons, List.sum_cons, List.length_cons, Nat.add_mul]
    omega
end
end Ev
set_option maxRecDepth 100000
/-! EvTab: dicts of the module whose keys and values are texts. -/
namespace Ev
open PySem L2 PySem.Spec PyProof.Rows
def strV : Value → Option Str
  | .str x _ => some x
  | _ => none
/-- at a: the written dict with these keys and values, in this order -/
structure TabOk (K : PySem.W.Frag) (w : World) (a : Addr) (tab : List (Str × Str)) : Prop where
  ex : ∃ es n, KDict K w a es n ∧ es.toList.map (fun e => (strV e.key, strV e.val)) = tab.map fun p => (some p.1, some p.2)
theorem strV_of {v : Value} {x : Str} (e : strV v = some x) : ∃ t, v = .str x t := by
  cases v with
  | str y t => cases e; exact ⟨t, rfl⟩
  | _ => cases e
theorem find_tab (z : Str) : ∀ {l : List DictEntry} {tab : List (Str × Str)}, l.map (fun e => (strV e.key, strV e.val)) = tab.map (fun p => (some p.1, some p.2)) →
    l.any (·.refKey) = false ∧ ((l.find? (·.key.isStr z) = none ∧ tab.find? (fun p => p.1 == z) = none) ∨ ∃ e p t, l.find? (·.key.isStr z) = some e ∧ tab.find? (fun p => p.1 == z) = some p ∧ e.val = .str p.2 t)
  | [], [], _ => ⟨rfl, .inl ⟨rfl, rfl⟩⟩
  | [], _ :: _, h => by cases h
  | _ :: _, [], h => by cases h
  | e :: l, p :: tab, h => by
    simp only [List.map_cons, List.cons.injEq, Prod.mk.injEq] at h
    obtain ⟨⟨h1, h2⟩, h3⟩ := h
    obtain ⟨t, ek⟩ := strV_of h1
    obtain ⟨u, ev⟩ := strV_of h2
    obtain ⟨n1, n2⟩ := find_tab z h3
    refine ⟨by rw [List.any_cons, n1]; simp [DictEntry.refKey, ek], ?_⟩
    have hs : e.key.isStr z = (p.1 == z) := by rw [ek]; rfl
    rw [List.find?_cons, List.find?_cons, hs]
    cases p.1 == z with
    | true => exact .inr ⟨e, p, u, rfl, rfl, ev⟩
    | false => exact n2
def tabGet (tab : List (Str × Str)) (z : Str) : W := match tab.find? (fun p => p.1 == z) with
  | some p => .str p.2
  | none => .non
def eTabGet (tab : List (Str × Str)) (f : SE) : SE := fun ls h => (f ls h).bind fun x h1 => match x with
  | .str z => .ok (tabGet tab z) h1
  | _ => .bad
def eTabIx (tab : List (Str × Str)) (f : SE) : SE := fun ls h => (f ls h).bind fun x h1 => match x with
  | .str z => match tab.find? (fun p => p.1 == z) with
    | some p => .ok (.str p.2) h1
    | none => .bad
  | _ => .bad
section
variable {X : Cx} {N : Nm} {Wx : WX} {pos apos p1 : Pos} {e : PySem.Expr} {f : SE} {x : Str} {a : Addr} {tab : List (Str × Str)}
theorem TabOk.found (D : TabOk X.K X.w a tab) (z : Str) : ∃ es n, KDict X.K X.w a es n ∧ ∃ r, findBy Value.isStrOf es z = r ∧ ((tabGet tab z = .non ∧ r = none) ∨ ∃ v t, tabGet tab z = .str v ∧ r = some (.str v t)) := by
  obtain ⟨es, n, kd, em⟩ := D.ex
  obtain ⟨c1, c2⟩ := find_tab z em
  refine ⟨es, n, kd, _, rfl, ?_⟩
  have ns : PySem.W.nsIn X.K a z = some ((es.toList.find? (·.key.isStr z)).map (·.val)) := by
    unfold PySem.W.nsIn
    rw [kd.at_]
    simp only
    cases q : es.toList.find? (·.key.isStr z) with
    | some e => rfl
    | none => rw [c1]; rfl
  rw [PySem.W.find_K kd.at_ ns]
  unfold tabGet
  rcases c2 with ⟨q1, q2⟩ | ⟨e, p, t, q1, q2, q3⟩
  · rw [q1, q2]; exact .inl ⟨rfl, rfl⟩
  · rw [q1, q2]; exact .inr ⟨p.2, t, rfl, by simp [q3]⟩
theorem r_tabget (D : TabOk X.K X.w a tab) (hm : X.mg x = some (.ref a)) (he : PE X e (LE X.K N Wx f)) (hg : Gl X x := by rfl) (hdb : (x == ("__debug__" : Str)) = false := by decide)
    (hbase : attributeBase (.Name x p1) "get" X.env (eval (.Name x p1) X.env) = eval (.Name x p1) X.env := by rfl)
    (hfew : ((backTo pos (starEach [e] X.env)).all (fun y => !y.1) && (backToKw pos (keywordEach [] X.env)).all (fun y => y.1.isSome) && decide (([e] : List PySem.Expr).length + ([] : List Keyword).length + (if ([] : List Keyword).isEmpty then 0 else 1) < 30)) = true := by rfl)
    (hline : (apos.endLine == pos.line) = true := by rfl) (hst : starEach [e] X.env = (false, eval e X.env) :: starEach [] X.env := by rfl) (hpl : (backTo pos (starEach [] X.env)).any (·.1) = false := by rfl) :
    PE X (.Call (.Attribute (.Name x p1) "get" apos) [e] [] pos) (LE X.K N Wx (eTabGet tab f)) := by
  refine ⟨fun pins s σ H Q I ⟨ρ, ls, hp, l, hr, o⟩ => ?_⟩
  obtain ⟨es, n, kd, em⟩ := D.ex
  refine wpAny_Call_method_late hbase hfew hline rfl (ld_glob I hg hm ?_ hdb)
  refine ⟨"dict", "dict.get", F.plainAttrs_dict, F.slot_dict_get, F.type_dict_get, kd_type kd I, fun b eb => by cases eb; exact ⟨_, I.kIn _ _ kd.at_, rfl⟩, ?_⟩
  have ha := (ra_cons (N := N) (Wx := Wx) he ra_nil hst).run pos pins s σ H (fun vs H1 => ∃ u, vs = [u] ∧ ∃ ρ1 w h1, Ex ρ ρ1 H H1 ∧ HR X.K N ρ1 h1 H1 ∧ VR X.K ρ1 H1 w u ∧ Out X.K N ρ1 H1 (match w with | .str z => .ok (tabGet tab z) h1 | _ => .bad) Q (fun c d H' => Wx c d σ H')) I ?_
  · rw [hst] at ha ⊢
    refine Calls.callWith_builtin (by show (false || (backTo pos (starEach [] X.env)).any (·.1)) = false; rw [hpl]; rfl) (Calls.evalArgs_plain ?_)
    refine thn ha fun us s2 ⟨vs, H2, I2, r2, u, eu, ρ1, w, h1, ex1, hr1, rx, o1⟩ => ?_
    subst eu
    cases r2 with
    | cons q1 q2 =>
      cases q2
      cases rx with
      | str z =>
        obtain ⟨t, rfl⟩ := q1
        obtain ⟨es', n', kd', r, er, cs⟩ := D.found z
        have hmp := PySem.W.mapOf_K (prog := X.prog) (w := X.w) I2.kIn kd'.at_ kd'.lit
        refine call_meetsIn F.slot_dict_get hmp.typeIs F.entry_dict_get (F.args_dict_get_2 _ _) (meets_dict_get (PySem.strKind X.prog X.w) a (PySem.strKind_is X.prog X.w z t) kd'.low) ⟨_, hmp, ?_⟩
        rw [er]
        rcases cs with ⟨c1, rfl⟩ | ⟨v, t2, c1, rfl⟩
        · simp only [c1] at o1
          exact ⟨.non, H2, I2.tok _, rfl, o1 ρ1 H2 _ (Ex.refl _ _) hr1 .non⟩
        · simp only [c1] at o1
          exact ⟨.str v, H2, I2.tok _, ⟨t2, rfl⟩, o1 ρ1 H2 _ (Ex.refl _ _) hr1 (.str _)⟩
      | _ => exact o1.elim
  · refine ⟨ρ, ls, hp, l, hr, ?_⟩
    have ob := Out.bind o
    unfold aCons
    cases ef : f ls hp with
    | ok w h1 =>
      rw [ef] at ob
      intro ρ' H' us ex r rx
      cases rx with
      | cons q1 q2 =>
        cases q2
        exact ⟨_, rfl, ob ρ' H' _ ex r q1⟩
    | exc c fs h1 => rw [ef] at ob; exact ob
    | bad => rw [ef] at ob; exact ob.elim
end
/-! ### the hook with tables -/
def tabE (K : PySem.W.Frag) (a : Addr) : Option (List (Option Str × Int × Option Str)) := match K.lookup a with
  | some ⟨.type c, none, .dict es _, sl⟩ => if c = "dict" ∧ sl.isEmpty = true ∧ (a == sysModules) = false then some (es.toList.map fun e => (strV e.key, e.hash, strV e.val)) else none
  | _ => none
abbrev TabW : Type := Str × List (Str × Str)
def tabVal (w : World) (t : TabW) : Option (List (Option Str × Int × Option Str)) := some (t.2.map fun p => (some p.1, PyData.keyHash w.params p.1, some p.2))
theorem lit_of {P : Params} : ∀ {l : List DictEntry} {tab : List (Str × Str)}, l.map (fun e => (strV e.key, e.hash, strV e.val)) = tab.map (fun p => (some p.1, PyData.keyHash P p.1, some p.2)) →
    PySem.W.KeysLit P l ∧ l.map (fun e => (strV e.key, strV e.val)) = tab.map fun p => (some p.1, some p.2)
  | [], [], _ => ⟨True.intro, rfl⟩
  | [], _ :: _, h => by cases h
  | _ :: _, [], h => by cases h
  | e :: l, p :: tab, h => by
    simp only [List.map_cons, List.cons.injEq, Prod.mk.injEq] at h
    obtain ⟨⟨h1, h2, h3⟩, h4⟩ := h
    obtain ⟨q1, q2⟩ := lit_of h4
    obtain ⟨t, ek⟩ := strV_of h1
    exact ⟨⟨⟨p.1, t, ek, h2⟩, q1⟩, by simp only [List.map_cons, h1, h3, q2]⟩
theorem tabE_ok {K : PySem.W.Frag} {w : World} {a : Addr} {t : TabW} (e : tabE K a = tabVal w t) : TabOk K w a t.2 := by
  unfold tabE tabVal at e
  split at e
  · rename_i c es n sl q
    split at e
    · rename_i z
      obtain ⟨rfl, z2, z3⟩ := z
      obtain ⟨q1, q2⟩ := lit_of (Option.some.inj e)
      have : sl = #[] := Array.isEmpty_iff.mp z2
      subst this
      exact ⟨es, n, ⟨q, q1, z3⟩, q2⟩
    · cases e
  · cases e
abbrev AlT : Type := AlE × List (Option (List (Option Str × Int × Option Str)))
def obsT (fc : List Fc) (fn : List DefE) (ts : List TabW) (K : PySem.W.Frag) : AlT := (obsC fc fn K, ts.map fun t => tabE K (He.ga K t.1))
def valT (fn : List DefE) (ts : List TabW) (w : World) : AlT := (valC fn, ts.map (tabVal w))
def obsTG (n : Nat) (fc : List Fc) (fn : List DefE) (ts : List TabW) (g : Addr → Option Obj) : AlT := obsT fc fn ts (He.frG g (cStatics :: He.asD g n))
def SaysT (fc : List Fc) (fn : List DefE) (ts : List TabW) (w : World) (K : PySem.W.Frag) : Prop := obsT fc fn ts K = valT fn ts w
def hookT (n : Nat) (fc : List Fc) (fn : List DefE) (ts : List TabW) : PySem.W.Hook where
  α := AlT
  obs := fun s => obsTG n fc fn ts s.heap.get?
  val := fun w => valT fn ts w
  says := fun w h => ∃ K : PySem.W.Frag, K.In h ∧ SaysT fc fn ts w K
  of := fun _ _ e => ⟨_, He.frG_in, e⟩
  keeps := fun _ _ _ ⟨K, hK, c⟩ k => ⟨K, PySem.W.Frag.In.keeps hK k, c⟩
theorem obsTG_eq {n : Nat} {fc : List Fc} {fn : List DefE} {ts : List TabW} {g : Addr → Option Obj} {s : Shared} (h : ∀ a, g a = s.heap.get? a) : obsTG n fc fn ts g = (hookT n fc fn ts).obs s := by
  have e : g = s.heap.get? := funext h
  rw [e]; rfl
section
variable {fc : List Fc} {fn : List DefE} {ts : List TabW} {w : World} {K : PySem.W.Frag}
theorem SaysT.c (s : SaysT fc fn ts w K) : SaysC fc fn K := congrArg (fun z : AlT => z.1) s
theorem SaysT.tab (s : SaysT fc fn ts w K) (i : Nat) {t : TabW} (h : ts[i]? = some t := by rfl) : TabOk K w (He.ga K t.1) t.2 := by
  have e : ts.map (fun t => tabE K (He.ga K t.1)) = ts.map (tabVal w) := congrArg (fun z : AlT => z.2) s
  have e2 : (ts.map fun t => tabE K (He.ga K t.1))[i]? = (ts.map (tabVal w))[i]? := by rw [e]
  rw [List.getElem?_map, List.getElem?_map, h] at e2
  exact tabE_ok (Option.some.inj e2)
end
/-! ### what must hold -/
section
variable {ls : Ls} {h : Heap} {Q : W → Heap → Prop} {E : Nat → List (Nat × W) → Heap → Prop} {tab : List (Str × Str)} {f : SE}
@[simp] theorem x_tabget : (eTabGet tab f ls h).to Q E ↔ (f ls h).to (fun x h1 => ∃ z, x = .str z ∧ Q (tabGet tab z) h1) E := by
  unfold eTabGet
  rw [to_bind]
  cases f ls h with
  | ok x h1 => cases x <;> simp
  | exc => rfl
  | bad => rfl
end
end Ev
set_option maxRecDepth 100000
/-! EvData: data that may be shown and compared. -/
namespace Ev
open PySem L2
open PyData (strOk)
theorem strOk_app {a b : Str} (x : strOk a = true) (y : strOk b = true) : strOk (a ++ b) = true := by
  unfold strOk at *
  show ((a.cps ++ b.cps).all fun c => decide (c < 1114112)) = true
  rw [Array.all_append, x, y]; rfl
theorem strOk_textFrom : ∀ (ts : List Str) (k : Nat) (acc : Str), strOk acc = true → (∀ t ∈ ts, strOk t = true) → strOk (textFrom k acc ts) = true
  | [], _, _, a, _ => a
  | t :: ts, k, acc, a, h => by
    refine strOk_textFrom ts (k + 1) _ (strOk_app (strOk_app a ?_) (h t (by simp))) fun u m => h u (List.mem_cons_of_mem _ m)
    by_cases z : k > 0
    · simp only [if_pos z]; decide +kernel
    · simp only [if_neg z]; decide +kernel
theorem strOk_join {s : Str} (hs : strOk s = true) : ∀ ts : List Str, (∀ t ∈ ts, strOk t = true) → strOk (Str.join s ts) = true
  | [], _ => by show strOk Str.empty = true; decide +kernel
  | [x], h => h x (by simp)
  | x :: y :: r, h => strOk_app (strOk_app (h x (by simp)) hs) (strOk_join hs (y :: r) fun u m => h u (List.mem_cons_of_mem _ m))
theorem strOk_list {ts : List Str} (h : ∀ t ∈ ts, strOk t = true) : strOk (listText ts) = true := strOk_app (strOk_textFrom ts 0 _ (by decide +kernel) h) (by decide +kernel)
theorem strOk_tuple {ts : List Str} (h : ∀ t ∈ ts, strOk t = true) : strOk (tupleText ts) = true := by
  refine strOk_app (strOk_app (by decide +kernel) (strOk_join (by decide +kernel) ts h)) ?_
  cases ts.length == 1 <;> decide +kernel
/-- data that may be shown and compared; its weight and depth bounded -/
structure DOk (w n : Nat) (d : PyData) : Prop where
  lay : d.canLay0 = true
  nod : d.hasDict = false
  sh : d.showable = true
  sho : d.intsShort 13 = true
  dep : d.depth ≤ n
  wei : d.weight ≤ w
  txt : strOk d.shown = true
theorem DOk.mono {w w' n n' : Nat} {d : PyData} (a : DOk w n d) (h1 : w ≤ w') (h2 : n ≤ n') : DOk w' n' d := { a with dep := Nat.le_trans a.dep h2, wei := Nat.le_trans a.wei h1 }
theorem DOk.none : DOk 0 0 .none := ⟨rfl, by simp [PyData.hasDict], by simp [PyData.showable], by simp [PyData.intsShort], by simp [PyData.depth], by simp [PyData.weight], by decide +kernel⟩
theorem DOk.bool (b : Bool) : DOk 0 0 (.bool b) := ⟨rfl, by simp [PyData.hasDict], by simp [PyData.showable], by simp [PyData.intsShort], by simp [PyData.depth], by simp [PyData.weight], by cases b <;> decide +kernel⟩
theorem strOk_ofString (s : String) : strOk (Str.ofString s) = true := by
  have e : (Str.ofString s).cps.toList = s.toList.map Char.toNat := cpsOfBytes_string s
  unfold strOk
  rw [← Array.all_toList, e, List.all_eq_true]
  intro c m
  obtain ⟨ch, _, rfl⟩ := List.mem_map.mp m
  have h : ch.toNat = ch.val.toNat := rfl
  rcases ch.valid with z | z <;> simp only [h, decide_eq_true_eq] <;> omega
theorem DOk.int {i : Int} (h : i.natAbs < 10 ^ 12) : DOk 40 0 (.int i) := by
  have l2 : i.natAbs.log2 < 40 := by
    by_cases z : i.natAbs = 0
    · rw [z]; decide
    · exact (Nat.log2_lt z).mpr (by have : (10 : Nat) ^ 12 < 2 ^ 40 := by decide
                                    omega)
  refine ⟨rfl, by simp [PyData.hasDict], by simp [PyData.showable]; omega, by simpa [PyData.intsShort] using PyData.shown_int_le h, by simp [PyData.depth], ?_, strOk_ofString _⟩
  simp only [PyData.weight]
  split <;> omega
theorem DOk.str {s : Str} (h1 : strOk s = true) (h2 : strOk (reprText s) = true) : DOk s.cps.size 0 (.str s) := ⟨by simpa [PyData.canLay0] using h1, by simp [PyData.hasDict], by simp [PyData.showable], by simp [PyData.intsShort], by simp [PyData.depth], by simp [PyData.weight], h2⟩
section
variable {w n : Nat}
theorem all_lay : ∀ {ds : List PyData}, (∀ d ∈ ds, DOk w n d) → PyData.canLayAll0 ds = true
  | [], _ => rfl
  | d :: ds, h => by simp only [PyData.canLayAll0, (h d (by simp)).lay, all_lay fun x m => h x (List.mem_cons_of_mem _ m), Bool.and_self]
theorem all_nod : ∀ {ds : List PyData}, (∀ d ∈ ds, DOk w n d) → PyData.hasDictAll ds = false
  | [], _ => by simp only [PyData.hasDictAll]
  | d :: ds, h => by simp only [PyData.hasDictAll, (h d (by simp)).nod, all_nod fun x m => h x (List.mem_cons_of_mem _ m), Bool.or_self]
theorem all_sh : ∀ {ds : List PyData}, (∀ d ∈ ds, DOk w n d) → PyData.showableAll ds = true
  | [], _ => by simp only [PyData.showableAll]
  | d :: ds, h => by simp only [PyData.showableAll, (h d (by simp)).sh, all_sh fun x m => h x (List.mem_cons_of_mem _ m), Bool.and_self]
theorem all_sho : ∀ {ds : List PyData}, (∀ d ∈ ds, DOk w n d) → PyData.intsShortAll 13 ds = true
  | [], _ => by simp only [PyData.intsShortAll]
  | d :: ds, h => by simp only [PyData.intsShortAll, (h d (by simp)).sho, all_sho fun x m => h x (List.mem_cons_of_mem _ m), Bool.and_self]
theorem all_dep : ∀ {ds : List PyData}, (∀ d ∈ ds, DOk w n d) → PyData.depthAll ds ≤ n
  | [], _ => by simp [PyData.depthAll]
  | d :: ds, h => by
    have h1 := (h d (by simp)).dep
    have h2 := all_dep fun x m => h x (List.mem_cons_of_mem _ m)
    simp only [PyData.depthAll]; omega
theorem all_wei : ∀ {ds : List PyData}, (∀ d ∈ ds, DOk w n d) → PyData.weightAll ds ≤ ds.length * (w + 1)
  | [], _ => by simp [PyData.weightAll]
  | d :: ds, h => by
    have h1 := (h d (by simp)).wei
    have h2 := all_wei fun x m => h x (List.mem_cons_of_mem _ m)
    simp only [PyData.weightAll, List.length_cons, Nat.add_mul]; omega
theorem all_txt : ∀ {ds : List PyData}, (∀ d ∈ ds, DOk w n d) → ∀ t ∈ PyData.shownAll ds, strOk t = true
  | [], _ => by simp [PyData.shownAll]
  | d :: ds, h => by
    intro t m
    simp only [PyData.shownAll, List.mem_cons] at m
    rcases m with rfl | m
    · exact (h d (by simp)).txt
    · exact all_txt (fun x m => h x (List.mem_cons_of_mem _ m)) t m
theorem DOk.tuple {ds : List PyData} (h : ∀ d ∈ ds, DOk w n d) : DOk (ds.length * (w + 1)) (n + 1) (.tuple ds) :=
  ⟨by simp only [PyData.canLay0, all_lay h], by simp only [PyData.hasDict, all_nod h], by simp only [PyData.showable, all_sh h], by simp only [PyData.intsShort, all_sho h], by simp only [PyData.depth]; have := all_dep h; omega, by simp only [PyData.weight]; exact all_wei h, by simp only [PyData.shown]; exact strOk_tuple (all_txt h)⟩
theorem DOk.list {ds : List PyData} (h : ∀ d ∈ ds, DOk w n d) : DOk (ds.length * (w + 1)) (n + 1) (.list ds) :=
  ⟨by simp only [PyData.canLay0, all_lay h], by simp only [PyData.hasDict, all_nod h], by simp only [PyData.showable, all_sh h], by simp only [PyData.intsShort, all_sho h], by simp only [PyData.depth]; have := all_dep h; omega, by simp only [PyData.weight]; exact all_wei h, by simp only [PyData.shown]; exact strOk_list (all_txt h)⟩
theorem DOk.fits {d : PyData} (a : DOk w n d) (hw : w ≤ 2 ^ 20) (hn : n ≤ 60) : d.shown.length ≤ sizeLine := by
  refine PyData.shown_fits_of_layable0 (B := 13) (by decide) (by decide) ?_ a.sho
  simp only [PyData.layable0, a.lay, Bool.true_and, Bool.and_eq_true, decide_eq_true_eq]
  have := a.dep
  have := a.wei
  exact ⟨by omega, by omega⟩
theorem DOk.shaped {d : PyData} (a : DOk w n d) (hn : n ≤ 60) : SeqAt.shaped d = true := by
  have := a.dep
  simp only [SeqAt.shaped, a.lay, Bool.true_and, decide_eq_true_eq]
  omega
end
section
variable {h : Heap} {Q : W → Heap → Prop} {E : Nat → List (Nat × W) → Heap → Prop} {w n : Nat}
/-- repr of a list or a tuple -/
theorem repr_to {v : W} {d : PyData} (hv : (∃ k, v = .ref k) ∨ (∃ xs, v = .tup xs) ∨ ∃ xs, v = .fl xs) (e : toD h 60 v = some d) (a : DOk w n d) (hw : w ≤ 2 ^ 20 := by decide) (hn : n ≤ 60 := by decide) (q : Q (.str d.shown) h) : (bRepr [v] h).to Q E := by
  have c : d.hasDict = false ∧ d.showable = true ∧ d.depth ≤ 60 ∧ d.shown.length ≤ sizeLine := ⟨a.nod, a.sh, Nat.le_trans a.dep hn, a.fits hw hn⟩
  have : bRepr [v] h = .ok (.str d.shown) h := by
    rcases hv with ⟨k, rfl⟩ | ⟨xs, rfl⟩ | ⟨xs, rfl⟩ <;> (simp only [bRepr, e]; rw [if_pos c])
  rw [this]; exact q
/-- two values with the same data are equal -/
theorem eqO_same {x y : W} {d : PyData} (e1 : toD h 60 x = some d) (e2 : toD h 60 y = some d) (a : DOk w n d) (hn : n ≤ 60 := by decide) : eqO h x y = some true := by
  have e : dataEq h x y = some true := by
    simp only [dataEq, e1, e2, a.shaped hn, Bool.and_self, if_true, SeqAt.eqv_refl d a.lay]
  unfold eqO
  split
  · rename_i xs ys h1 h2
    split
    · exact e
    · rename_i ne
      exfalso
      have l1 : ∀ {v : W} {zs : List W}, seqW h v = some zs → toD h 60 v = some d → ∃ ds, d = .list ds ∧ ds.length = zs.length := by
        intro v zs s t
        have al : ∀ (f : W → Option PyData) (zs : List W) (ds : List PyData), allO f zs = some ds → ds.length = zs.length := by
          intro f zs
          induction zs with
          | nil => intro ds z; simp [allO] at z; subst z; rfl
          | cons z zs ih =>
            intro ds q
            simp only [allO] at q
            split at q
            · rename_i d1 ds1 _ e2; cases q; simp [ih _ e2]
            · cases q
        cases v with
        | ref k =>
          simp only [seqW] at s
          simp only [toD, s] at t
          obtain ⟨ds, q1, q2⟩ := Option.map_eq_some_iff.mp t
          exact ⟨ds, q2.symm, al _ _ _ q1⟩
        | fl zs' =>
          simp only [seqW, Option.some.injEq] at s
          subst s
          simp only [toD] at t
          obtain ⟨ds, q1, q2⟩ := Option.map_eq_some_iff.mp t
          exact ⟨ds, q2.symm, al _ _ _ q1⟩
        | _ => simp [seqW] at s
      obtain ⟨d1, q1, q2⟩ := l1 h1 e1
      obtain ⟨d2, q3, q4⟩ := l1 h2 e2
      rw [q1] at q3
      cases q3
      exact ne (by omega)
  · exact e
theorem allO_map {f : W → Option PyData} {g : W → PyData} : ∀ {xs : List W}, (∀ x ∈ xs, f x = some (g x)) → allO f xs = some (xs.map g)
  | [], _ => rfl
  | x :: xs, h => by simp only [allO, h x (by simp), allO_map fun y m => h y (List.mem_cons_of_mem _ m), List.map_cons]
theorem toD_lst {k : Nat} {xs : List W} {g : W → PyData} {m : Nat} (e : h.get k = some (.lst xs)) (hx : ∀ x ∈ xs, toD h m x = some (g x)) : toD h (m + 1) (.ref k) = some (.list (xs.map g)) := by
  simp only [toD, lstAt_iff.mpr e, allO_map hx, Option.map_some]
end
end Ev
set_option maxRecDepth 100000
/-! EvFaults: the faults: made, read, linked, raised. -/
namespace EvF
open PySem L2 Ev
abbrev S := SX.S
/-! letters -/
def letterB (c : Nat) : Bool := (decide (97 ≤ c) && decide (c ≤ 122)) || (decide (65 ≤ c) && decide (c ≤ 90))
theorem lt1 (a b : Nat) : (([a] : List Nat) < [b]) ↔ a < b := by simp [List.cons_lt_cons_iff]
theorem le1 (a b : Nat) : (([a] : List Nat) ≤ [b]) ↔ a ≤ b := by
  show ¬ (([b] : List Nat) < [a]) ↔ _
  rw [lt1]; omega
theorem dlt1 (a b : Nat) : decide (([a] : List Nat) < [b]) = decide (a < b) := decide_eq_decide.mpr (lt1 a b)
theorem c_a : (("a" : Str)).cps.toList = [97] := by decide
theorem c_z : (("z" : Str)).cps.toList = [122] := by decide
theorem c_A : (("A" : Str)).cps.toList = [65] := by decide
theorem c_Z : (("Z" : Str)).cps.toList = [90] := by decide
theorem c_sp : ((" " : Str)).cps.toList = [32] := by decide
theorem c_ti : (("~" : Str)).cps.toList = [126] := by decide
theorem list1 (c : Nat) : (Str.mk #[c]).cps.toList = [c] := rfl
theorem is_letter_to {h : Ev.Heap} {c : Nat} {Q : W → Ev.Heap → Prop} {E : Nat → List (Nat × W) → Ev.Heap → Prop} (q : Q (.bl (letterB c)) h) : (F_is_letter [.str ⟨#[c]⟩] h).to Q E := by
  unfold F_is_letter s_is_letter
  have e : letterB c = (if decide (97 ≤ c) && decide (c ≤ 122) then true else decide (65 ≤ c) && decide (c ≤ 90)) := by unfold letterB; cases decide (97 ≤ c) && decide (c ≤ 122) <;> rfl
  rw [e] at q
  simp [c_a, c_z, c_A, c_Z, lt1, le1, dlt1]
  rcases Nat.lt_or_ge c 97 with a | a
  · rcases Nat.lt_or_ge c 65 with b | b
    · exact .inl ⟨a, .inl ⟨b, by simpa [Nat.not_le.mpr a, Nat.not_le.mpr b] using q⟩⟩
    · refine .inl ⟨a, .inr ⟨b, ?_⟩⟩
      have : (!decide (90 < c)) = decide (c ≤ 90) := by by_cases z : c ≤ 90 <;> simp [z] <;> omega
      simp only [this]
      simpa [Nat.not_le.mpr a, b] using q
  · rcases Nat.lt_or_ge 122 c with b | b
    · have l90 : ¬ c ≤ 90 := by omega
      have l65 : 65 ≤ c := by omega
      refine .inr ⟨a, .inl ⟨b, .inr ⟨l65, ?_⟩⟩⟩
      simpa [a, Nat.not_le.mpr b, l90, Nat.not_le.mp l90] using q
    · refine .inr ⟨a, .inr ⟨b, ?_⟩⟩
      simpa [a, b, Nat.not_lt.mpr b] using q
def kindB (cs : List Nat) : Bool := decide (1 ≤ cs.length) && decide (cs.length ≤ 12) && (match cs with
  | [] => false
  | c :: _ => decide (65 ≤ c) && decide (c ≤ 90)) && cs.all letterB
theorem len_S (cs : List Nat) : (S cs).length = cs.length := by show cs.toArray.size = _; simp
theorem list_S (cs : List Nat) : (S cs).cps.toList = cs := by show cs.toArray.toList = _; simp
theorem is_kind_to {h : Ev.Heap} {cs : List Nat} {Q : W → Ev.Heap → Prop} {E : Nat → List (Nat × W) → Ev.Heap → Prop} (hl : cs.length ≤ 60) (q : ∀ h', Kp [] h h' → Q (.bl (kindB cs)) h') : (F_is_kind [.str (S cs)] h).to Q E := by
  have hz : sizeLine = 16777216 := sizeLine_eq
  unfold F_is_kind s_is_kind
  simp [tyOf, isi_ss, len_S, list_S, hz, pick, c_A, c_Z, lt1, le1, dlt1]
  refine ⟨by omega, ?_⟩
  cases cs with
  | nil => exact .inl ⟨by simp, q h (Kp.refl _ _)⟩
  | cons c cs =>
    simp only [List.length_cons] at hl ⊢
    refine .inr ⟨by omega, ?_⟩
    rcases Nat.lt_or_ge 12 (cs.length + 1) with a | a
    · refine .inl ⟨by omega, ?_⟩
      have e : kindB (c :: cs) = false := by unfold kindB; simp; omega
      rw [e] at q; exact q h (Kp.refl _ _)
    · refine .inr ⟨by omega, by omega, c, by simp [atI, ixN], ?_⟩
      rcases Nat.lt_or_ge c 65 with b | b
      · refine .inl ⟨b, ?_⟩
        have e : kindB (c :: cs) = false := by unfold kindB; simp; omega
        rw [e] at q; exact q h (Kp.refl _ _)
      · refine .inr ⟨b, ?_⟩
        rcases Nat.lt_or_ge 90 c with d | d
        · refine .inl ⟨d, ?_⟩
          have e : kindB (c :: cs) = false := by unfold kindB; simp; omega
          rw [e] at q
          simpa [d] using q h (Kp.refl _ _)
        · refine .inr ⟨d, by omega, comp_pure (fun _ => true) (fun x => match x with | .str s => .bl (letterB (s.cps.getD 0 0)) | _ => .non) rfl _ (fun x m => ?_) ?_⟩
          · simp only [List.mem_map] at m
            obtain ⟨c', m, rfl⟩ := m
            refine ⟨_, rfl, ?_⟩
            simp [wipeL]
            exact is_letter_to (by simp)
          · have ebl : ∀ l : List Nat, blsOf (((l.map fun c => W.str ⟨#[c]⟩).filter fun _ => true).map fun x => match x with | .str s => .bl (letterB (s.cps.getD 0 0)) | _ => .non) = some (l.map letterB) := by
              intro l
              induction l with
              | nil => rfl
              | cons c l ih =>
                simp only [List.map_cons, List.filter_cons_of_pos]
                simp only [blsOf, ih, Option.map_some]
                rfl
            refine ⟨_, ebl (c :: cs), ?_⟩
            have e : kindB (c :: cs) = ((c :: cs).map letterB).all id := by
              unfold kindB
              simp [b, d]
              intro; omega
            rw [← e]
            exact q _ (Kp.new _ _ _)
/-! labels -/
def labelB (cs : List Nat) : Bool := decide (cs.length ≤ 40) && cs.all fun c => decide (32 ≤ c) && decide (c ≤ 126) && decide (c ≠ 37)
theorem is_label_to {h : Ev.Heap} {cs : List Nat} {Q : W → Ev.Heap → Prop} {E : Nat → List (Nat × W) → Ev.Heap → Prop} (hl : cs.length ≤ 60) (q : ∀ h', Kp [] h h' → Q (.bl (labelB cs)) h') : (F_is_label [.str (S cs)] h).to Q E := by
  have hz : sizeLine = 16777216 := sizeLine_eq
  unfold F_is_label s_is_label
  simp [tyOf, isi_ss, len_S, list_S, hz]
  refine ⟨by omega, ?_⟩
  rcases Nat.lt_or_ge 40 cs.length with a | a
  · refine .inr ⟨by omega, ?_⟩
    have e : labelB cs = false := by unfold labelB; simp; omega
    rw [e] at q; exact q h (Kp.refl _ _)
  · refine .inl ⟨by omega, by omega, comp_pure (fun _ => true) (fun x => match x with | .str s => .bl (decide (32 ≤ s.cps.getD 0 0) && decide (s.cps.getD 0 0 ≤ 126) && decide (s.cps.getD 0 0 ≠ 37)) | _ => .non) rfl _ (fun x m => ?_) ?_⟩
    · simp only [List.mem_map] at m
      obtain ⟨c, m, rfl⟩ := m
      refine ⟨_, rfl, ?_⟩
      simp [wipeL]
      refine ⟨rfl, ?_⟩
      rcases Nat.lt_or_ge c 32 with a | a
      · exact .inl ⟨by omega, by omega⟩
      · refine .inr ⟨by omega, ?_⟩
        rcases Nat.lt_or_ge 126 c with b | b
        · refine .inl ⟨by omega, ?_⟩
          rw [decide_eq_false (by omega), decide_eq_false (by omega : ¬ c ≤ 126)]; simp
        · exact .inr ⟨by omega, rfl, by omega⟩
    · have ebl : ∀ l : List Nat, blsOf (((l.map fun c => W.str ⟨#[c]⟩).filter fun _ => true).map fun x => match x with | .str s => .bl (decide (32 ≤ s.cps.getD 0 0) && decide (s.cps.getD 0 0 ≤ 126) && decide (s.cps.getD 0 0 ≠ 37)) | _ => .non) = some (l.map fun c => decide (32 ≤ c) && decide (c ≤ 126) && decide (c ≠ 37)) := by
        intro l
        induction l with
        | nil => rfl
        | cons c l ih =>
          simp only [List.map_cons, List.filter_cons_of_pos]
          simp only [blsOf, ih, Option.map_some]
          rfl
      refine ⟨_, ebl cs, ?_⟩
      have e : labelB cs = (cs.map fun c => decide (32 ≤ c) && decide (c ≤ 126) && decide (c ≠ 37)).all id := by
        unfold labelB
        rw [decide_eq_true (by omega : cs.length ≤ 40), Bool.true_and, List.all_map]; rfl
      rw [← e]
      exact q _ (Kp.new _ _ _)

/-! faults -/
structure Flt where
  kind : Str
  label : Str
  num : Int
  ctx : Option Nat
  cau : Option Nat
  hid : Bool
def oW : Option Nat → W
  | none => .non
  | some n => .ref n
def fltFs (f : Flt) : List (Nat × W) := [(0, .str f.kind), (1, .str f.label), (2, .int f.num), (3, oW f.ctx), (4, oW f.cau), (5, .bl f.hid)]
def FltAt (h : Ev.Heap) (n : Nat) (f : Flt) : Prop := h.get n = some (.ins 0 (fltFs f))
section
variable {h : Ev.Heap} {n : Nat} {f : Flt} {Q : W → Ev.Heap → Prop} {E : Nat → List (Nat × W) → Ev.Heap → Prop} {P : Po} {ls : Ls}
theorem kind_to (a : FltAt h n f) (q : Q (.str f.kind) h) : (F_Fault_kind [.ref n] h).to Q E := by
  unfold F_Fault_kind s_Fault_kind
  simp [show h.get n = _ from a, fltFs, fGet, q]
theorem label_to (a : FltAt h n f) (q : Q (.str f.label) h) : (F_Fault_label [.ref n] h).to Q E := by
  unfold F_Fault_label s_Fault_label
  simp [show h.get n = _ from a, fltFs, fGet, q]
theorem number_to (a : FltAt h n f) (q : Q (.int f.num) h) : (F_Fault_number [.ref n] h).to Q E := by
  unfold F_Fault_number s_Fault_number
  simp [show h.get n = _ from a, fltFs, fGet, q]
theorem context_to (a : FltAt h n f) (q : Q (oW f.ctx) h) : (F_Fault_context [.ref n] h).to Q E := by
  unfold F_Fault_context s_Fault_context
  simp [show h.get n = _ from a, fltFs, fGet, q]
theorem cause_to (a : FltAt h n f) (q : Q (oW f.cau) h) : (F_Fault_cause [.ref n] h).to Q E := by
  unfold F_Fault_cause s_Fault_cause
  simp [show h.get n = _ from a, fltFs, fGet, q]
theorem hides_to (a : FltAt h n f) (q : Q (.bl f.hid) h) : (F_Fault_hides [.ref n] h).to Q E := by
  unfold F_Fault_hides s_Fault_hides
  simp [show h.get n = _ from a, fltFs, fGet, q]
/-- Fault(kind, label, number), all three valid -/
theorem init_to {k l : List Nat} {m : Int} (e : h.get n = some (.ins 0 [])) (ln : n < h.nx) (hk : kindB k = true) (hl : labelB l = true) (hm : 0 ≤ m) (q : ∀ h', Kp [n] h h' → FltAt h' n ⟨S k, S l, m, none, none, false⟩ → Q .non h') :
    (F_Fault___init__ [.ref n, .str (S k), .str (S l), .int m] h).to Q E := by
  have k12 : k.length ≤ 60 := by
    unfold kindB at hk
    simp only [Bool.and_eq_true, decide_eq_true_eq] at hk
    omega
  have l40 : l.length ≤ 60 := by
    unfold labelB at hl
    simp only [Bool.and_eq_true, decide_eq_true_eq] at hl
    omega
  have hz : sizeLine = 16777216 := sizeLine_eq
  have i1 : isiO clNo (.b "int") (.ty "int") = some true := by decide +kernel
  have i2 : isiO clNo (.b "int") (.ty "bool") = some false := by decide +kernel
  unfold F_Fault___init__ s_Fault___init__
  simp [pick]
  refine is_kind_to k12 fun h1 K1 => ?_
  rw [hk]
  simp
  refine is_label_to l40 fun h2 K2 => ?_
  rw [hl]
  simp [tyOf, i1, i2, hz]
  have e2 : h2.get n = some (.ins 0 []) := (K1.trans K2).get e ln (by simp)
  refine ⟨by omega, ?_⟩
  simp [e2, Heap.put_get, fPut]
  refine q _ ?_ (by simp [FltAt, fltFs, oW, Heap.put_get])
  have k0 : Kp [n] h h2 := (K1.trans K2).mono (by simp)
  refine ⟨k0.1, fun j l z => ?_⟩
  have : j ≠ n := by simpa using z
  simp [Heap.put_get, this]
  exact k0.2 j l z
/-- a pool of faults whose links stay within it -/
structure Pool (h : Ev.Heap) (fs : List Nat) (G : Nat → Flt) : Prop where
  at_ : ∀ n ∈ fs, FltAt h n (G n) ∧ n < h.nx
  nd : fs.Nodup
  ctx : ∀ n ∈ fs, ∀ m, (G n).ctx = some m → m ∈ fs
  cau : ∀ n ∈ fs, ∀ m, (G n).cau = some m → m ∈ fs
def upG (G : Nat → Flt) (n : Nat) (f : Flt) (m : Nat) : Flt := if m = n then f else G m
theorem Pool.kp {h h' : Ev.Heap} {fs : List Nat} {G : Nat → Flt} {S : List Nat} (p : Pool h fs G) (k : Kp S h h') (hS : ∀ n ∈ fs, n ∉ S) : Pool h' fs G :=
  ⟨fun n m => ⟨(k.2 n (p.at_ n m).2 (hS n m)).trans (p.at_ n m).1, Nat.lt_of_lt_of_le (p.at_ n m).2 k.1⟩, p.nd, p.ctx, p.cau⟩
theorem Pool.set {h : Ev.Heap} {fs : List Nat} {G : Nat → Flt} {n : Nat} {f : Flt} (p : Pool h fs G) (h1 : ∀ m, f.ctx = some m → m ∈ fs) (h2 : ∀ m, f.cau = some m → m ∈ fs) : Pool (h.put n (.ins 0 (fltFs f))) fs (upG G n f) := by
  refine ⟨fun m k => ⟨?_, (p.at_ m k).2⟩, p.nd, fun m k j e => ?_, fun m k j e => ?_⟩
  · unfold FltAt upG
    rw [Heap.put_get]
    by_cases z : m = n
    · rw [if_pos z, if_pos z]
    · rw [if_neg z, if_neg z]; exact (p.at_ m k).1
  · unfold upG at e
    by_cases z : m = n
    · rw [if_pos z] at e; exact h1 j e
    · rw [if_neg z] at e; exact p.ctx m k j e
  · unfold upG at e
    by_cases z : m = n
    · rw [if_pos z] at e; exact h2 j e
    · rw [if_neg z] at e; exact p.cau m k j e
theorem need_to (a : FltAt h n f) (q : Q .non h) : (F_need_fault [.ref n] h).to Q E := by
  have e : tyOf h (.ref n) = some (.c 0) := by simp [tyOf, show h.get n = _ from a]
  unfold F_need_fault s_need_fault
  simp [e, isiA, q]
theorem need_none_to {o : Option Nat} (a : ∀ m, o = some m → ∃ f, FltAt h m f) (q : Q .non h) : (F_need_fault_or_none [oW o] h).to Q E := by
  unfold F_need_fault_or_none s_need_fault_or_none
  cases o with
  | none => simp [oW, W.eqb, q]
  | some m =>
    obtain ⟨f, a⟩ := a m rfl
    simp [oW, W.eqb, pick]
    exact need_to a q
theorem with_cause_to {fs : List Nat} {G : Nat → Flt} {o : Option Nat} (p : Pool h fs G) (m : n ∈ fs) (ho : ∀ m, o = some m → m ∈ fs) (q : ∀ h', Kp [n] h h' → Pool h' fs (upG G n { G n with cau := o, hid := true }) → Q .non h') : (F_with_cause [.ref n, oW o] h).to Q E := by
  have a : h.get n = _ := (p.at_ n m).1
  unfold F_with_cause s_with_cause
  simp [pick]
  refine need_to a ?_
  refine need_none_to (fun j e => ⟨_, (p.at_ j (ho j e)).1⟩) ?_
  simp [a, Heap.put_get, fltFs, fPut]
  have := p.set (n := n) (f := { G n with cau := o, hid := true }) (p.ctx n m) ho
  refine q _ ?_ ?_
  · refine ⟨Nat.le_refl _, fun j l z => ?_⟩
    have : j ≠ n := by simpa using z
    simp [Heap.put_get, this]
  · have e : ((h.put n (Ob.ins 0 [(0, W.str (G n).kind), (1, W.str (G n).label), (2, W.int (G n).num), (3, oW (G n).ctx), (4, oW o), (5, W.bl (G n).hid)])).put n (Ob.ins 0 [(0, W.str (G n).kind), (1, W.str (G n).label), (2, W.int (G n).num), (3, oW (G n).ctx), (4, oW o), (5, W.bl true)])) = h.put n (.ins 0 (fltFs { G n with cau := o, hid := true })) := by
      unfold Heap.put
      congr 1
      funext j
      by_cases z : j = n <;> simp [z, fltFs]
    rw [e]
    exact this
end
/-! contexts end -/
inductive Ends (G : Nat → Flt) : Nat → Nat → Prop
  | nil {n : Nat} : (G n).ctx = none → Ends G n 0
  | cons {n m k : Nat} : (G n).ctx = some m → Ends G m k → Ends G n (k + 1)
theorem Ends.det {G : Nat → Flt} : ∀ {n j k : Nat}, Ends G n j → Ends G n k → j = k
  | _, _, _, .nil _, .nil _ => rfl
  | _, _, _, .nil a, .cons b _ => by rw [a] at b; cases b
  | _, _, _, .cons a _, .nil b => by rw [a] at b; cases b
  | _, _, _, .cons a r, .cons b s => by rw [a] at b; cases b; rw [Ends.det r s]
theorem nodup_le : ∀ {l fs : List Nat}, l.Nodup → (∀ z ∈ l, z ∈ fs) → l.length ≤ fs.length
  | [], _, _, _ => Nat.zero_le _
  | a :: l, fs, nd, h => by
    have ha := h a (by simp)
    have ih := nodup_le (l := l) (fs := fs.erase a) (List.nodup_cons.mp nd).2 fun z m => (List.mem_erase_of_ne (a := z) (b := a) (fun e => (List.nodup_cons.mp nd).1 (by rw [← e]; exact m))).mpr (h z (List.mem_cons_of_mem _ m))
    rw [List.length_erase_of_mem ha] at ih
    have : 0 < fs.length := List.length_pos_of_mem ha
    simp only [List.length_cons]
    omega
theorem Ends.path {G : Nat → Flt} {fs : List Nat} (c : ∀ n ∈ fs, ∀ m, (G n).ctx = some m → m ∈ fs) : ∀ {n k : Nat}, n ∈ fs → Ends G n k → ∃ l : List Nat, l.length = k + 1 ∧ l.Nodup ∧ ∀ z ∈ l, z ∈ fs ∧ ∃ j, j ≤ k ∧ Ends G z j
  | n, _, m, .nil a => ⟨[n], rfl, by simp, fun z h => by obtain rfl := List.mem_singleton.mp h; exact ⟨m, 0, Nat.le_refl _, .nil a⟩⟩
  | n, _, m, .cons (m := m') (k := k) a r => by
    obtain ⟨l, h1, h2, h3⟩ := Ends.path c (c n m m' a) r
    refine ⟨n :: l, by simp [h1], List.nodup_cons.mpr ⟨fun hm => ?_, h2⟩, fun z hz => ?_⟩
    · obtain ⟨_, j, lj, ej⟩ := h3 n hm
      have := Ends.det ej (.cons a r)
      omega
    · rcases List.mem_cons.mp hz with rfl | hz
      · exact ⟨m, k + 1, Nat.le_refl _, .cons a r⟩
      · obtain ⟨q1, j, lj, ej⟩ := h3 z hz
        exact ⟨q1, j, by omega, ej⟩
theorem Ends.lt {G : Nat → Flt} {fs : List Nat} (c : ∀ n ∈ fs, ∀ m, (G n).ctx = some m → m ∈ fs) {n k : Nat} (m : n ∈ fs) (e : Ends G n k) : k < fs.length := by
  obtain ⟨l, h1, h2, h3⟩ := Ends.path c m e
  have := nodup_le h2 fun z hz => (h3 z hz).1
  omega
/-- from x along the contexts: y is the first whose context is f, or none -/
inductive Stop (G : Nat → Flt) (f : Nat) : Nat → Nat → Nat → Prop
  | here {y : Nat} : ((G y).ctx = none ∨ (G y).ctx = some f) → Stop G f y y 0
  | step {x z y k : Nat} : (G x).ctx = some z → z ≠ f → Stop G f z y k → Stop G f x y (k + 1)
theorem Stop.of {G : Nat → Flt} (f : Nat) : ∀ {x k : Nat}, Ends G x k → ∃ y j, j ≤ k ∧ Stop G f x y j
  | x, _, .nil a => ⟨x, 0, Nat.le_refl _, .here (.inl a)⟩
  | x, _, .cons (m := m) a r => by
    by_cases z : m = f
    · subst z; exact ⟨x, 0, Nat.zero_le _, .here (.inr a)⟩
    · obtain ⟨y, j, l, s⟩ := Stop.of f r
      exact ⟨y, j + 1, by omega, .step a z s⟩
theorem Stop.mem {G : Nat → Flt} {f : Nat} {fs : List Nat} (c : ∀ n ∈ fs, ∀ m, (G n).ctx = some m → m ∈ fs) : ∀ {x y k : Nat}, Stop G f x y k → x ∈ fs → y ∈ fs
  | _, _, _, .here _, m => m
  | x, _, _, .step a _ s, m => Stop.mem c s (c x m _ a)
/-- fault f raised while hd is handled, hd's contexts cut at y -/
def raised (G : Nat → Flt) (f hd y : Nat) : Nat → Flt := upG (upG G y { G y with ctx := none }) f { upG G y { G y with ctx := none } f with ctx := some hd }
theorem raised_ctx {G : Nat → Flt} {f hd y x : Nat} : (raised G f hd y x).ctx = if x = f then some hd else if x = y then none else (G x).ctx := by
  unfold raised upG
  by_cases a : x = f
  · simp [a]
  · rw [if_neg a, if_neg a]
    by_cases b : x = y
    · rw [if_pos b, if_pos b]
    · rw [if_neg b, if_neg b]
theorem Stop.ends {G : Nat → Flt} {f hd y : Nat} : ∀ {x k : Nat}, x ≠ f → Stop G f x y k → (∃ j, Ends G x j) → ∃ j, Ends (raised G f hd y) x j
  | x, _, ne, .here _, _ => ⟨0, .nil (by rw [raised_ctx]; simp [ne])⟩
  | x, _, ne, .step (z := z) a nz s, ⟨j, e⟩ => by
    by_cases b : x = y
    · exact ⟨0, .nil (by rw [raised_ctx, if_neg ne, if_pos b])⟩
    · cases e with
      | nil c => rw [a] at c; cases c
      | cons c r =>
        rw [a] at c; cases c
        obtain ⟨i, q⟩ := Stop.ends nz s ⟨_, r⟩
        exact ⟨i + 1, .cons (by rw [raised_ctx, if_neg ne, if_neg b]; exact a) q⟩
theorem raised_ends {G : Nat → Flt} {f hd y k : Nat} (ne : hd ≠ f) (s : Stop G f hd y k) {j0 : Nat} (e0 : Ends G hd j0) : ∀ {x j : Nat}, Ends G x j → ∃ i, Ends (raised G f hd y) x i := by
  obtain ⟨i0, q0⟩ := Stop.ends (hd := hd) ne s ⟨_, e0⟩
  intro x j e
  induction e with
  | @nil x a =>
    by_cases b : x = f
    · exact ⟨i0 + 1, .cons (by rw [raised_ctx, if_pos b]) q0⟩
    · exact ⟨0, .nil (by rw [raised_ctx, if_neg b]; split; rfl; exact a)⟩
  | @cons x m k a r ih =>
    by_cases b : x = f
    · exact ⟨i0 + 1, .cons (by rw [raised_ctx, if_pos b]) q0⟩
    · by_cases d : x = y
      · exact ⟨0, .nil (by rw [raised_ctx, if_neg b, if_pos d])⟩
      · obtain ⟨i, q⟩ := ih
        exact ⟨i + 1, .cons (by rw [raised_ctx, if_neg b, if_neg d]; exact a) q⟩
theorem Stop.ne {G : Nat → Flt} {f : Nat} : ∀ {x y k : Nat}, Stop G f x y k → x ≠ f → y ≠ f
  | _, _, _, .here _, m => m
  | _, _, _, .step _ nz s, _ => Stop.ne s nz
section
variable {h : Ev.Heap} {n : Nat} {Q : W → Ev.Heap → Prop} {E : Nat → List (Nat × W) → Ev.Heap → Prop} {fs : List Nat} {G : Nat → Flt}
theorem idEq_flt {a b : Nat} {f g : Flt} (x : FltAt h a f) (y : FltAt h b g) : idEq idF h (.ref a) (.ref b) = some (decide (a = b)) := by
  simp [idEq, show h.get a = _ from x, show h.get b = _ from y, idF]
/-- raise_under(fault, handled) -/
theorem raise_to {o : Option Nat} (p : Pool h fs G) (hs : fs.length ≤ 1000) (m : n ∈ fs) (ho : ∀ m, o = some m → m ∈ fs) (he : ∀ x ∈ fs, ∃ k, Ends G x k)
    (q0 : (o = none ∨ o = some n) → Q .non h)
    (q : ∀ hd y k h', o = some hd → hd ≠ n → Stop G n hd y k → Kp [y, n] h h' → Pool h' fs (raised G n hd y) → Q .non h') : (F_raise_under [.ref n, oW o] h).to Q E := by
  have a := (p.at_ n m).1
  unfold F_raise_under s_raise_under
  simp [pick]
  refine need_to a ?_
  refine need_none_to (fun j e => ⟨_, (p.at_ j (ho j e)).1⟩) ?_
  cases o with
  | none =>
    simp [oW, W.eqb]
    exact q0 (.inl rfl)
  | some hd =>
    have mh := ho hd rfl
    have b := (p.at_ hd mh).1
    simp [oW, W.eqb, idEq_flt b a]
    by_cases z : hd = n
    · subst z
      simp
      exact q0 (.inr rfl)
    · simp [z]
      obtain ⟨k, e⟩ := he hd mh
      obtain ⟨y, j, lj, s⟩ := Stop.of n e
      have lk := Ends.lt p.ctx mh e
      refine while_inv (fun i ls h' => h' = h ∧ ∃ x, ls = [some (.ref n), some (.ref hd), some (.ref x)] ∧ x ∈ fs ∧ Stop G n x y i) (fun i ls h' J => ?_) 100000 j _ _ (by omega) ⟨rfl, hd, rfl, mh, s⟩
      obtain ⟨rfl, x, rfl, mx, sx⟩ := J
      have ax : h'.get x = _ := (p.at_ x mx).1
      have an : h'.get n = _ := a
      have fin : x = y → (G y).ctx = none ∨ (G y).ctx = some n → Q .non (((h'.put y (.ins 0 (fltFs { G y with ctx := none }))).put n (.ins 0 (fltFs { G n with ctx := some hd })))) := fun _ _ => by
        have ny : y ≠ n := Stop.ne s z
        have my : y ∈ fs := Stop.mem p.ctx s mh
        refine q hd y j _ rfl z s ?_ ?_
        · refine ⟨Nat.le_refl _, fun i l k => ?_⟩
          simp only [List.mem_cons, List.not_mem_nil, or_false, not_or] at k
          rw [Heap.put_ne k.2, Heap.put_ne k.1]
        · have p1 := p.set (n := y) (f := { G y with ctx := none }) (fun _ e => by cases e) (p.cau y my)
          have p2 := p1.set (n := n) (f := { upG G y { G y with ctx := none } n with ctx := some hd }) (fun _ e => by cases e; exact mh) (p1.cau n m)
          have e : ({ upG G y { G y with ctx := none } n with ctx := some hd } : Flt) = { G n with ctx := some hd } := by
            unfold upG
            rw [if_neg ny.symm]
          unfold raised
          rw [e] at p2 ⊢
          exact p2
      cases sx with
      | here c =>
        rcases c with c | c
        · have := fin rfl (.inl c)
          have ny : y ≠ n := Stop.ne s z
          simp [ax, fltFs, fGet, c, oW, W.eqb, fPut, Heap.put_get, an, ny, ny.symm]
          simpa [fltFs, oW] using this
        · have := fin rfl (.inr c)
          have ny : y ≠ n := Stop.ne s z
          simp [ax, fltFs, fGet, c, oW, W.eqb, idEq_flt a a, fPut, Heap.put_get, an, ny, ny.symm]
          simpa [fltFs, oW] using this
      | @step _ w _ k' c nz s' =>
        have mw := p.ctx x mx w c
        simp [ax, fltFs, fGet, c, oW, W.eqb, idEq_flt (p.at_ w mw).1 a, nz]
        exact ⟨k', by omega, mw, s'⟩
end
/-! rows_of: the faults that the links lead to -/
def addO (o : Option Nat) (l : List Nat) : List Nat := match o with
  | some m => if m ∈ l then l else l ++ [m]
  | none => l
def grow (G : Nat → Flt) (l : List Nat) (x : Nat) : List Nat := addO (G x).ctx (addO (G x).cau l)
inductive Bfs (G : Nat → Flt) : List Nat → Nat → List Nat → Prop
  | done {l : List Nat} {i : Nat} : l.length ≤ i → Bfs G l i l
  | step {l r : List Nat} {i x : Nat} : l[i]? = some x → Bfs G (grow G l x) (i + 1) r → Bfs G l i r
def numO (G : Nat → Flt) : Option Nat → W
  | none => .non
  | some m => .int (G m).num
def rowW (G : Nat → Flt) (n : Nat) : W := .tup [.int (G n).num, .str (G n).kind, .str (G n).label, numO G (G n).ctx, numO G (G n).cau, .bl (G n).hid]
theorem addO_sub {o : Option Nat} {l fs : List Nat} (h : ∀ x ∈ l, x ∈ fs) (ho : ∀ m, o = some m → m ∈ fs) : ∀ x ∈ addO o l, x ∈ fs := by
  intro x m
  cases o with
  | none => exact h x m
  | some a =>
    unfold addO at m
    simp only at m
    split at m
    · exact h x m
    · rcases List.mem_append.mp m with m | m
      · exact h x m
      · obtain rfl := List.mem_singleton.mp m; exact ho x rfl
theorem addO_nd {o : Option Nat} {l : List Nat} (h : l.Nodup) : (addO o l).Nodup := by
  cases o with
  | none => exact h
  | some a =>
    unfold addO
    simp only
    split
    · exact h
    · rename_i z
      rw [List.nodup_append]
      exact ⟨h, by simp, fun x hx y hy => by simp at hy; subst hy; rintro rfl; exact z hx⟩
theorem addO_len (o : Option Nat) (l : List Nat) : l.length ≤ (addO o l).length := by
  cases o with
  | none => exact Nat.le_refl _
  | some a =>
    unfold addO
    simp only
    split <;> simp
theorem grow_len (G : Nat → Flt) (l : List Nat) (x : Nat) : l.length ≤ (grow G l x).length := Nat.le_trans (addO_len _ _) (addO_len _ _)
section
variable {h : Ev.Heap} {n : Nat} {Q : W → Ev.Heap → Prop} {E : Nat → List (Nat × W) → Ev.Heap → Prop} {fs : List Nat} {G : Nat → Flt}
theorem refs_pool (p : Pool h fs G) : ∀ {l : List Nat}, (∀ x ∈ l, x ∈ fs) → refsOf h 0 (l.map W.ref) = some l
  | [], _ => rfl
  | x :: l, hx => by
    have a : h.get x = _ := (p.at_ x (hx x (by simp))).1
    simp [refsOf, a, refs_pool p fun y m => hx y (List.mem_cons_of_mem _ m)]
theorem numof_to {o : Option Nat} (a : ∀ m, o = some m → FltAt h m (G m)) (q : Q (numO G o) h) : (F_number_of [oW o] h).to Q E := by
  unfold F_number_of s_number_of
  cases o with
  | none => simp [oW, W.eqb]; exact q
  | some m =>
    have a := a m rfl
    simp [oW, W.eqb, show h.get m = _ from a]
    exact number_to a q
/-- one link looked at -/
theorem look_to {l : List Nat} {k m : Nat} {o : Option Nat} {P : Po} {ls2 : Option W} (p : Pool h fs G) (kf : k ∉ fs) (lk : k < h.nx) (hl : ∀ x ∈ l, x ∈ fs) (lz : l.length ≤ 1000) (e : h.get k = some (.lst (l.map W.ref))) (ho : ∀ m, o = some m → m ∈ fs)
    (q : ∀ h', Kp [k] h h' → h'.nx = h.nx → h'.get k = some (.lst ((addO o l).map W.ref)) → P.nx [some (.ref m), some (.ref k), ls2, some (oW o), none] h') :
    (sIf (bAnd (bVal (eBin wIsnt (eVar 3) (eW .non))) (bVal (eBin (wNinI idF) (eVar 3) (eVar 1)))) (sExpr (eBm "list" mAppend (eVar 1) (aCons (eVar 3) (aNil)))) (sNil) [some (.ref m), some (.ref k), ls2, some (oW o), none] h).to P := by
  have hz : sizeLine = 16777216 := sizeLine_eq
  cases o with
  | none =>
    simp [oW, W.eqb]
    exact q h (Kp.refl _ _) rfl e
  | some a =>
    have ma := ho a rfl
    have aa : h.get a = _ := (p.at_ a ma).1
    have ei : idIn idF h (.ref a) (.ref k) = some (decide (a ∈ l)) := by
      simp only [idIn, aa, seqW, lstAt, e, idF, refs_pool p hl]
      simp
    simp [oW, W.eqb, ei]
    by_cases z : a ∈ l
    · simp [z]
      have := q h (Kp.refl _ _) rfl (by simp [addO, z]; exact e)
      simpa [oW] using this
    · simp [z, wTyp, e, hz]
      refine ⟨by omega, ?_⟩
      have := q (h.put k (.lst ((l.map W.ref) ++ [.ref a]))) (Kp.put h _ (by simp)) rfl (by simp [addO, z])
      simpa [oW] using this
theorem rows1_to {l : List Nat} {k m i x : Nat} {o3 : Option W} {P : Po} (p : Pool h fs G) (kf : k ∉ fs) (lk : k < h.nx) (hl : ∀ x ∈ l, x ∈ fs) (nd : l.Nodup) (hs : fs.length ≤ 1000) (e : h.get k = some (.lst (l.map W.ref))) (ex : l[i]? = some x)
    (q : ∀ h' o4, Kp [k] h h' → h'.nx = h.nx → h'.get k = some (.lst ((grow G l x).map W.ref)) → P.nx [some (.ref m), some (.ref k), some (.int i), o4, none] h') :
    (s_rows_of_1 [some (.ref m), some (.ref k), some (.int i), o3, none] h).to P := by
  have hz : sizeLine = 16777216 := sizeLine_eq
  have mx : x ∈ fs := hl x (List.mem_of_getElem? ex)
  have ax : h.get x = _ := (p.at_ x mx).1
  have ll := nodup_le nd hl
  have hlt : i < l.length := (List.getElem?_eq_some_iff.mp ex).1
  have ai : atI (l.map W.ref) (i : Int) = some (.ref x) := by
    unfold atI ixN
    rw [if_pos (by omega), if_pos (by simpa using hlt)]
    simp [ex]
  unfold s_rows_of_1
  generalize hB : sIf (bAnd (bVal (eBin wIsnt (eVar 3) (eW .non))) (bVal (eBin (wNinI idF) (eVar 3) (eVar 1)))) (sExpr (eBm "list" mAppend (eVar 1) (aCons (eVar 3) (aNil)))) (sNil) = B
  simp [e, ai, ax, fltFs, fGet, hz]
  rw [for_cons]
  refine ⟨rfl, _, rfl, ?_⟩
  subst hB
  simp only [List.set_cons_succ, List.set_cons_zero]
  refine look_to p kf lk hl (by omega) e (p.cau x mx) fun h1 K1 n1 e1 => ?_
  simp only []
  rw [for_cons]
  refine ⟨rfl, _, rfl, ?_⟩
  simp only [List.set_cons_succ, List.set_cons_zero]
  have p1 := p.kp K1 fun y my => by simp; rintro rfl; exact kf my
  refine look_to p1 kf (by omega) (addO_sub hl (p.cau x mx)) (by have := nodup_le (addO_nd nd) (addO_sub hl (p.cau x mx)); omega) e1 (p.ctx x mx) fun h2 K2 n2 e2 => ?_
  simp only []
  rw [for_nil]
  exact ⟨rfl, q h2 _ (K1.trans K2) (n2.trans n1) e2⟩
theorem rows7_to {l : List Nat} {k m i : Nat} {o3 : Option W} {P : Po} (p : Pool h fs G) (kf : k ∉ fs) (lk : k < h.nx) (hl : ∀ x ∈ l, x ∈ fs) (lz : l.length ≤ 1000) (e : h.get k = some (.lst (l.map W.ref)))
    (q : ∀ h', Kp [] h h' → h.nx < h'.nx → h'.get h.nx = some (.lst (l.map (rowW G))) → P.rt (.ref h.nx) h') : (s_rows_of_7 [some (.ref m), some (.ref k), some (.int i), o3, none] h).to P := by
  have hz : sizeLine = 16777216 := sizeLine_eq
  unfold s_rows_of_7
  simp [e, hz]
  refine ⟨by omega, comp_pure (fun _ => true) (fun w => match w with | .ref n => rowW G n | _ => .non) (by simp [gOk, lstAt, e, W.eqbs_refl]) _ (fun w mw => ?_) ?_⟩
  · simp only [List.mem_map] at mw
    obtain ⟨x, mx, rfl⟩ := mw
    have ax := (p.at_ x (hl x mx)).1
    have ax' : h.get x = _ := ax
    refine ⟨_, rfl, ?_⟩
    simp [wipeL, ax', pick]
    refine number_to ax ?_
    simp [ax']
    refine kind_to ax ?_
    simp [ax']
    refine label_to ax ?_
    simp [ax']
    refine context_to ax ?_
    refine numof_to (G := G) (fun j ej => (p.at_ j (p.ctx x (hl x mx) j ej)).1) ?_
    simp [ax']
    refine cause_to ax ?_
    refine numof_to (G := G) (fun j ej => (p.at_ j (p.cau x (hl x mx) j ej)).1) ?_
    simp [ax']
    refine hides_to ax ?_
    simp [hz, rowW]
  · refine q _ (Kp.new _ _ _) (by simp) ?_
    simp
    rw [List.filter_eq_self.mpr (fun _ _ => rfl), List.map_map]
    rfl
theorem rows_to (p : Pool h fs G) (hs : fs.length ≤ 1000) (m : n ∈ fs) (q : ∀ r k h', Bfs G [n] 0 r → (∀ x ∈ r, x ∈ fs) → r.Nodup → Kp [] h h' → h.nx ≤ k → k < h'.nx → h'.get k = some (.lst (r.map (rowW G))) → Q (.ref k) h') : (F_rows_of [.ref n] h).to Q E := by
  have hz : sizeLine = 16777216 := sizeLine_eq
  have a := (p.at_ n m).1
  unfold F_rows_of s_rows_of s_rows_of_3 s_rows_of_4 s_rows_of_5 s_rows_of_6
  simp [pick, hz]
  refine need_to a ?_
  have nf : ∀ {x : Nat}, x ∈ fs → x ≠ h.nx := fun {x} mx => Nat.ne_of_lt (p.at_ x mx).2
  have kf : h.nx ∉ fs := fun z => (nf z) rfl
  refine while_inv (fun w ls h' => ∃ (l : List Nat) (i : Nat), ∃ o3 : Option W, w = fs.length - i ∧ i ≤ l.length ∧ ls = [some (.ref n), some (.ref h.nx), some (.int i), o3, none] ∧ Kp [h.nx] (h.new (.lst [.ref n])) h' ∧ h'.nx = h.nx + 1 ∧ h'.get h.nx = some (.lst (l.map W.ref)) ∧ l.Nodup ∧ (∀ x ∈ l, x ∈ fs) ∧ ∀ r, Bfs G l i r → Bfs G [n] 0 r)
    (fun w ls h' J => ?_) 100000 fs.length _ _ (by omega) ⟨[n], 0, none, by omega, by simp, rfl, Kp.refl _ _, rfl, by simp, by simp, by simpa using m, fun _ z => z⟩
  obtain ⟨l, i, o3, rfl, hi, rfl, K, nx, el, nd, sub, bf⟩ := J
  have ll := nodup_le nd sub
  have p' : Pool h' fs G := (p.kp (Kp.new [] h _) (by simp)).kp K fun x mx => by simp; exact nf mx
  simp [el]
  by_cases c : i < l.length
  · refine .inr ⟨c, ?_⟩
    have ex : l[i]? = some l[i] := List.getElem?_eq_getElem c
    refine rows1_to p' kf (by omega) sub nd hs el ex fun h2 o4 K2 n2 e2 => ?_
    have mx := sub _ (List.getElem_mem c)
    unfold s_rows_of_2
    simp
    refine ⟨fs.length - (i + 1), by omega, grow G l l[i], i + 1, by omega, ?_, by simp, K.trans K2, by omega, e2, ?_, ?_, fun r z => bf r (.step ex z)⟩
    · have := grow_len G l l[i]; omega
    · exact addO_nd (addO_nd nd)
    · exact addO_sub (addO_sub sub (p.cau _ mx)) (p.ctx _ mx)
  · refine .inl ⟨by omega, ?_⟩
    refine rows7_to p' kf (by omega) sub (by omega) el fun h2 K2 n2 e2 => ?_
    have Kn : Kp [] h h2 := by
      refine ⟨by have := K2.1; omega, fun j lj _ => ?_⟩
      rw [K2.2 j (by omega) (by simp), K.2 j (by simp; omega) (by simp; omega), Heap.new_ne (by omega)]
    exact q l h'.nx h2 (bf l (.done (by omega))) sub nd Kn (by omega) n2 e2
end
theorem nil_or {h2 : Ev.Heap} {ys : List W} {A B : Prop} (ha : ys.isEmpty = false → A) (hb : ys.isEmpty = true → B) :
    eqO ((h2.new (Ob.lst ys)).new (Ob.lst [])) (W.ref h2.nx) (W.ref (h2.nx + 1)) = some false ∧ A ∨ eqO ((h2.new (Ob.lst ys)).new (Ob.lst [])) (W.ref h2.nx) (W.ref (h2.nx + 1)) = some true ∧ B := by
  have e := eq_nil (h := (h2.new (Ob.lst ys)).new (Ob.lst [])) (n := h2.nx) (m := h2.nx + 1) (xs := ys) (by rw [Heap.new_ne (by simp)]; simp) (by simp [Heap.new_get])
  rw [e]
  cases z : ys.isEmpty with
  | true => exact .inr ⟨rfl, hb z⟩
  | false => exact .inl ⟨rfl, ha z⟩
end EvF
set_option maxRecDepth 100000
/-! EvPool: the laws' pool of faults with drawn links. -/
namespace EvF
open PySem L2 Ev
@[irreducible] def nxt : List W → Ev.Heap → R := F_next "mixed" 6364136223846793 1442695040888963 2305843009213693951 32749
theorem nxt_eq : nxt = F_next "mixed" 6364136223846793 1442695040888963 2305843009213693951 32749 := by unfold nxt; rfl
def s_pool_1 : SS := sAsg (eBm "list" mPop (eVar 4) (aCons (eCall (fun xs ys h => nxt (pick [(false, 0), (false, 1)] xs ys) h) 2 0 (aCons (eVar 0) (aCons (eB bLen (aCons (eVar 4) (aNil))) (aNil))) (aNil)) (aNil))) (gNm 7)
def s_pool_2 : SS := sExpr (eBm "list" mAppend (eVar 5) (aCons (eCall (mkObj 0 F_Fault___init__ (pick [(false, 0), (false, 1), (false, 2), (false, 3)])) 3 0 (aCons (eBin wIx (eVar 1) (eCall (fun xs ys h => nxt (pick [(false, 0), (false, 1)] xs ys) h) 2 0 (aCons (eVar 0) (aCons (eW (.int 5)) (aNil))) (aNil))) (aCons (eBin wIx (eVar 2) (eCall (fun xs ys h => nxt (pick [(false, 0), (false, 1)] xs ys) h) 2 0 (aCons (eVar 0) (aCons (eW (.int 5)) (aNil))) (aNil))) (aCons (eVar 7) (aNil)))) (aNil)) (aNil)))
def s_pool_3 : SS := sPar2 8 9 (aCons (eBin wIx (eVar 5) (eCall (fun xs ys h => nxt (pick [(false, 0), (false, 1)] xs ys) h) 2 0 (aCons (eVar 0) (aCons (eVar 3) (aNil))) (aNil))) (aCons (eBin wIx (eVar 5) (eCall (fun xs ys h => nxt (pick [(false, 0), (false, 1)] xs ys) h) 2 0 (aCons (eVar 0) (aCons (eVar 3) (aNil))) (aNil))) (aNil)))
def s_pool_4 : SS := sIf (bVal (eBin wEq (eCall (fun xs ys h => nxt (pick [(false, 0), (false, 1)] xs ys) h) 2 0 (aCons (eVar 0) (aCons (eW (.int 3)) (aNil))) (aNil)) (eW (.int 0)))) (sExpr (eCall (fun xs ys h => F_with_cause (pick [(false, 0), (false, 1)] xs ys) h) 2 0 (aCons (eVar 8) (aCons (eBin wIx (eLst (aCons (eVar 9) (aCons (eW .non) (aNil)))) (eBin wFdv (eCall (fun xs ys h => nxt (pick [(false, 0), (false, 1)] xs ys) h) 2 0 (aCons (eVar 0) (aCons (eW (.int 4)) (aNil))) (aNil)) (eW (.int 3)))) (aNil))) (aNil))) (sExpr (eCall (fun xs ys h => F_raise_under (pick [(false, 0), (false, 1)] xs ys) h) 2 0 (aCons (eVar 8) (aCons (eVar 9) (aNil))) (aNil)))
def s_pool_5 : SS := sPar2 1 2 (aCons (eLst (aCons (eW (.str "Error")) (aCons (eW (.str "Stop")) (aCons (eW (.str "Exit")) (aCons (eW (.str "Base")) (aCons (eW (.str "Key")) (aNil))))))) (aCons (eLst (aCons (eW (.str "")) (aCons (eW (.str "a")) (aCons (eW (.str "b: c")) (aCons (eW (.str "x (#1)")) (aCons (eW (.str "two words")) (aNil))))))) (aNil)))
def s_pool_6 : SS := sAsg (eBin wAdd (eW (.int 1)) (eCall (fun xs ys h => nxt (pick [(false, 0), (false, 1)] xs ys) h) 2 0 (aCons (eVar 0) (aCons (eW (.int 8)) (aNil))) (aNil))) (gNm 3)
def s_pool_7 : SS := sPar2 4 5 (aCons (eComp [6] (.one 6) (iRange1 (aCons (eVar 3) (aNil))) (bYes) (eBin wMul (eW (.int 3)) (eVar 6))) (aCons (eLst (aNil)) (aNil)))
def s_pool_8 : SS := sFor (.one 6) (iRange1 (aCons (eVar 3) (aNil))) (sSeq (s_pool_1) (s_pool_2))
def s_pool_9 : SS := sFor (.one 6) (iRange1 (aCons (eCall (fun xs ys h => nxt (pick [(false, 0), (false, 1)] xs ys) h) 2 0 (aCons (eVar 0) (aCons (eW (.int 16)) (aNil))) (aNil)) (aNil))) (sSeq (s_pool_3) (s_pool_4))
def s_pool_10 : SS := sRet (eVar 5)
def s_pool : SS := sSeq (s_pool_5) (sSeq (s_pool_6) (sSeq (s_pool_7) (sSeq (s_pool_8) (sSeq (s_pool_9) (s_pool_10)))))
@[irreducible] def F_pool : List W → Ev.Heap → R := fnOf 1 10 s_pool

theorem Ends.congr {G G' : Nat → Flt} (h : ∀ z, (G' z).ctx = (G z).ctx) : ∀ {n k : Nat}, Ends G n k → Ends G' n k
  | _, _, .nil a => .nil ((h _).trans a)
  | _, _, .cons a r => .cons ((h _).trans a) (Ends.congr h r)
theorem Drw.keep {h h' : Ev.Heap} {d g : Nat} {fs : List Nat} (D : Drw "mixed" h d g) (K : Kp fs h h') (df : d ∉ fs) (gf : g ∉ fs) : Drw "mixed" h' d g := by
  obtain ⟨⟨m, t, ed⟩, ⟨gl, eg, hl⟩, l1, l2, ne⟩ := D
  exact ⟨⟨m, t, K.get ed l1 df⟩, ⟨gl, K.get eg l2 gf, hl⟩, Nat.lt_of_lt_of_le l1 K.1, Nat.lt_of_lt_of_le l2 K.1, ne⟩
section
variable {h h0 : Ev.Heap} {d g n : Nat} {Q : W → Ev.Heap → Prop} {E : Nat → List (Nat × W) → Ev.Heap → Prop} {P : Po} {fs : List Nat} {G : Nat → Flt}
theorem nxt_to {b : Int} (D : Drw "mixed" h d g) (hb : 0 < b) (hb2 : b < 1073741824) (q : ∀ r h', 0 ≤ r → r < b → Drw "mixed" h' d g → Kp [d, g] h h' → Q (.int r) h') : (nxt [.ref d, .int b] h).to Q E := by
  rw [nxt_eq]; exact next_to D hb hb2 (q := q)
theorem o_popAt {n : Nat} {i : Int} : (mPop (.ref n) [.int i] h).to Q E ↔ ∃ xs w, h.get n = some (.lst xs) ∧ (0 ≤ i ∧ i < 2 ^ 63) ∧ xs[i.toNat]? = some w ∧ Q w (h.put n (.lst (xs.eraseIdx i.toNat))) := by
  show R.to (match h.get n with
    | some (.lst xs) => if 0 ≤ i ∧ i < 2 ^ 63 then match xs[i.toNat]? with
      | some w => .ok w (h.put n (.lst (xs.eraseIdx i.toNat)))
      | none => .bad
      else .bad
    | _ => .bad) Q E ↔ _
  split
  · rename_i xs e
    rw [to_ifb]
    split
    · rename_i w e2
      constructor
      · rintro ⟨z, q⟩; exact ⟨xs, w, e, z, e2, q⟩
      · rintro ⟨xs', w', e', z, e2', q⟩; rw [e] at e'; cases e'; rw [e2] at e2'; cases e2'; exact ⟨z, q⟩
    · rename_i e2
      constructor
      · rintro ⟨_, q⟩; exact q.elim
      · rintro ⟨xs', w', e', z, e2', q⟩; rw [e] at e'; cases e'; rw [e2] at e2'; cases e2'
  · rename_i n1
    constructor
    · exact False.elim
    · rintro ⟨xs, w, e, _⟩; exact (n1 xs e).elim
theorem S_self (s : Str) : S s.cps.toList = s := by cases s; simp [SX.S]
/-- Fault(kind, label, number): a new one -/
theorem mk_to {k l : Str} {m : Int} (hk : kindB k.cps.toList = true) (hl : labelB l.cps.toList = true) (hm : 0 ≤ m) (q : ∀ h', Kp [] h h' → h.nx < h'.nx → FltAt h' h.nx ⟨k, l, m, none, none, false⟩ → Q (.ref h.nx) h') :
    (mkObj 0 F_Fault___init__ (pick [(false, 0), (false, 1), (false, 2), (false, 3)]) [.str k, .str l, .int m] [] h).to Q E := by
  unfold mkObj
  rw [to_bind]
  rw [← S_self k, ← S_self l]
  simp only [pick, List.filterMap_cons, List.filterMap_nil, List.getElem?_cons_zero, List.getElem?_cons_succ, Bool.false_eq_true, if_false]
  refine init_to (by simp) (by simp) hk hl hm fun h' K F => ?_
  rw [S_self, S_self] at F
  have hn := K.1
  simp only [Heap.new_nx] at hn
  refine q h' ⟨by omega, fun j lj _ => ?_⟩ (by omega) F
  rw [K.2 j (by simp <;> omega) (by simp <;> omega), Heap.new_ne (by omega)]
def kindsM : List Str := ["Error", "Stop", "Exit", "Base", "Key"]
def labelsM : List Str := ["", "a", "b: c", "x (#1)", "two words"]
structure GoodF (f : Flt) : Prop where
  k : f.kind ∈ kindsM
  l : f.label ∈ labelsM
  n0 : 0 ≤ f.num
  n1 : f.num < 24
theorem kindsM_ok : ∀ s ∈ kindsM, kindB s.cps.toList = true := by decide
theorem labelsM_ok : ∀ s ∈ labelsM, labelB s.cps.toList = true := by decide
/-- the same but for links -/
def SameId (G G' : Nat → Flt) : Prop := ∀ x, (G' x).kind = (G x).kind ∧ (G' x).label = (G x).label ∧ (G' x).num = (G x).num
theorem SameId.refl (G : Nat → Flt) : SameId G G := fun _ => ⟨rfl, rfl, rfl⟩
theorem SameId.trans {G G1 G2 : Nat → Flt} (a : SameId G G1) (b : SameId G1 G2) : SameId G G2 := fun x => ⟨(b x).1.trans (a x).1, (b x).2.1.trans (a x).2.1, (b x).2.2.trans (a x).2.2⟩
theorem SameId.up {G : Nat → Flt} {n : Nat} {f : Flt} (h1 : f.kind = (G n).kind) (h2 : f.label = (G n).label) (h3 : f.num = (G n).num) : SameId G (upG G n f) := fun x => by
  unfold upG
  by_cases z : x = n
  · subst z; rw [if_pos rfl]; exact ⟨h1, h2, h3⟩
  · rw [if_neg z]; exact ⟨rfl, rfl, rfl⟩
theorem SameId.raised {G : Nat → Flt} {f hd y : Nat} : SameId G (raised G f hd y) := by
  unfold EvF.raised
  exact SameId.trans (SameId.up (n := y) (f := { G y with ctx := none }) rfl rfl rfl) (SameId.up rfl rfl rfl)
theorem SameId.good {G G' : Nat → Flt} (s : SameId G G') {x : Nat} (a : GoodF (G x)) : GoodF (G' x) := by
  obtain ⟨h1, h2, h3⟩ := s x
  exact ⟨by rw [h1]; exact a.k, by rw [h2]; exact a.l, by rw [h3]; exact a.n0, by rw [h3]; exact a.n1⟩
theorem SameId.nums {G G' : Nat → Flt} (s : SameId G G') (fs : List Nat) : fs.map (fun x => (G' x).num) = fs.map (fun x => (G x).num) := List.map_congr_left fun x _ => (s x).2.2
theorem Pool.add {h' : Ev.Heap} {f : Flt} {S' : List Nat} (p : Pool h fs G) (k : Kp S' h h') (hS : ∀ x ∈ fs, x ∉ S') (hn : ∀ x ∈ fs, x ≠ n) (F : FltAt h' n f) (ln : n < h'.nx) (c1 : f.ctx = none) (c2 : f.cau = none) : Pool h' (fs ++ [n]) (upG G n f) := by
  have p' := p.kp k hS
  refine ⟨fun m hm => ?_, ?_, fun m hm j e => ?_, fun m hm j e => ?_⟩
  · unfold upG
    rcases List.mem_append.mp hm with hm | hm
    · rw [if_neg (hn m hm)]; exact p'.at_ m hm
    · obtain rfl := List.mem_singleton.mp hm
      rw [if_pos rfl]; exact ⟨F, ln⟩
  · rw [List.nodup_append]
    exact ⟨p.nd, by simp, fun a ha b hb => by simp at hb; subst hb; exact hn a ha⟩
  · unfold upG at e
    rcases List.mem_append.mp hm with hm | hm
    · rw [if_neg (hn m hm)] at e
      exact List.mem_append_left _ (p.ctx m hm j e)
    · obtain rfl := List.mem_singleton.mp hm
      rw [if_pos rfl, c1] at e; cases e
  · unfold upG at e
    rcases List.mem_append.mp hm with hm | hm
    · rw [if_neg (hn m hm)] at e
      exact List.mem_append_left _ (p.cau m hm j e)
    · obtain rfl := List.mem_singleton.mp hm
      rw [if_pos rfl, c2] at e; cases e
theorem upG_same {f : Flt} : upG G n f n = f := by simp [upG]
theorem upG_ne {f : Flt} {x : Nat} (e : x ≠ n) : upG G n f x = G x := by simp [upG, e]
/-- the pool as it is handed on -/
structure PoolOk (h : Ev.Heap) (fs : List Nat) (G : Nat → Flt) : Prop where
  pool : Pool h fs G
  ends : ∀ x ∈ fs, ∃ k, Ends G x k
  good : ∀ x ∈ fs, GoodF (G x)
  nums : (fs.map fun x => (G x).num).Nodup
theorem PoolOk.kp {h' : Ev.Heap} {S' : List Nat} (p : PoolOk h fs G) (k : Kp S' h h') (hS : ∀ n ∈ fs, n ∉ S') : PoolOk h' fs G := ⟨p.pool.kp k hS, p.ends, p.good, p.nums⟩
/-- an item of a list of names, drawn -/
theorem ix_ref {k : Nat} {i : Int} {xs : List W} (e : h.get k = some (.lst xs)) (h0 : 0 ≤ i) (h1 : i < xs.length) (q : ∀ w, w ∈ xs → Q w h) : (wIx (.ref k) (.int i) h).to Q E := by
  obtain ⟨w, e1, m⟩ := atI_lt h0 h1
  simp [e, e1]
  exact q w m
theorem erase_get {α : Type} {l : List α} {i : Nat} {a : α} (h : l[i]? = some a) : ∀ x, x ∈ l.eraseIdx i → x ∈ l := fun x m => List.mem_of_mem_eraseIdx m
theorem erase_map {α β : Type} (f : α → β) : ∀ (l : List α) (i : Nat), (l.map f).eraseIdx i = (l.eraseIdx i).map f
  | [], _ => by simp
  | _ :: _, 0 => by simp
  | x :: l, i + 1 => by simp [erase_map f l i]
theorem erase_perm {α : Type} : ∀ {l : List α} {i : Nat} {a : α}, l[i]? = some a → (a :: l.eraseIdx i).Perm l
  | [], _, _, h => by simp at h
  | x :: l, 0, a, h => by simp at h; subst h; simp
  | x :: l, i + 1, a, h => by
    simp only [List.getElem?_cons_succ] at h
    simp only [List.eraseIdx_cons_succ]
    exact (List.Perm.swap x a _).trans ((erase_perm h).cons x)
structure J8 (h : Ev.Heap) (d g kk kl ks kf : Nat) (st : List Int) (xs : List W) (ls : Ls) (h' : Ev.Heap) : Prop where
  of : ∃ (st' : List Int) (fs : List Nat) (G : Nat → Flt), ∃ a6 a7 : Option W, xs.length = st'.length ∧ fs.length + st'.length = st.length ∧ ls = [some (.ref d), some (.ref kk), some (.ref kl), some (.int st.length), some (.ref ks), some (.ref kf), a6, a7, none, none] ∧ Kp [d, g, ks, kf] h h' ∧ Drw "mixed" h' d g ∧
      h'.get ks = some (.lst (st'.map W.int)) ∧ h'.get kf = some (.lst (fs.map W.ref)) ∧ Pool h' fs G ∧ (∀ x ∈ fs, h.nx ≤ x ∧ GoodF (G x) ∧ (G x).ctx = none) ∧ (st' ++ fs.map fun x => (G x).num).Nodup ∧ ∀ x ∈ st', 0 ≤ x ∧ x < 24
theorem pool8_to {ks kf kk kl : Nat} {many : Int} {a6 a7 : Option W} {st : List Int} (hm : many = st.length) (l8 : st.length ≤ 8)
    (ek : h.get kk = some (.lst (kindsM.map W.str))) (el : h.get kl = some (.lst (labelsM.map W.str))) (es : h.get ks = some (.lst (st.map W.int))) (ef : h.get kf = some (.lst []))
    (D : Drw "mixed" h d g) (n1 : kk < h.nx) (n2 : kl < h.nx) (n3 : ks < h.nx) (n4 : kf < h.nx) (ne : ks ≠ kf ∧ kk ≠ ks ∧ kk ≠ kf ∧ kl ≠ ks ∧ kl ≠ kf ∧ d ≠ kk ∧ d ≠ kl ∧ d ≠ ks ∧ d ≠ kf ∧ g ≠ kk ∧ g ≠ kl ∧ g ≠ ks ∧ g ≠ kf)
    (hs : st.Nodup) (hs0 : ∀ x ∈ st, 0 ≤ x ∧ x < 24)
    (q : ∀ h' fs G a6 a7, PoolOk h' fs G → fs.length = st.length → (∀ x ∈ fs, h.nx ≤ x) → Kp [d, g, ks, kf] h h' → Drw "mixed" h' d g → h'.get kf = some (.lst (fs.map W.ref)) → P.nx [some (.ref d), some (.ref kk), some (.ref kl), some (.int many), some (.ref ks), some (.ref kf), a6, a7, none, none] h') :
    (s_pool_8 [some (.ref d), some (.ref kk), some (.ref kl), some (.int many), some (.ref ks), some (.ref kf), a6, a7, none, none] h).to P := by
  have hz : sizeLine = 16777216 := sizeLine_eq
  obtain ⟨ne1, ne2, ne3, ne4, ne5, ne6, ne7, ne8, ne9, ne10, ne11, ne12, ne13⟩ := ne
  unfold s_pool_8
  subst hm
  simp [smallR]
  refine ⟨by omega, for_inv (J8 h d g kk kl ks kf st) _ _ _ ⟨⟨st, [], fun _ => ⟨"", "", 0, none, none, false⟩, a6, a7, by simp [rangeW], by simp, rfl, Kp.refl _ _, D, es, ef, ⟨by simp, by simp, by simp, by simp⟩, by simp, by simpa using hs, hs0⟩⟩ ?_ ?_⟩
  · rintro x xs ls h' ⟨⟨st', fs, G, b6, b7, hl, hl2, rfl, K, D', es', ef', p, hf, nd, h24⟩⟩
    refine ⟨rfl, _, rfl, ?_⟩
    have ek' := K.get ek n1 (by simp <;> omega)
    have el' := K.get el n2 (by simp <;> omega)
    have hnx := K.1
    have lst' : 0 < st'.length := by simp only [List.length_cons] at hl; omega
    unfold s_pool_1 s_pool_2
    simp [wTyp, es', pick]
    refine nxt_to D' (by omega) (by omega) fun r h1 r0 r1 D1 K1 => ?_
    have fsne : ∀ x ∈ fs, x ≠ d ∧ x ≠ g ∧ x ≠ ks ∧ x ≠ kf ∧ x < h'.nx := fun x m => by
      have := (hf x m).1
      have ld := D.ld
      have lg := D.lg
      exact ⟨by omega, by omega, by omega, by omega, (p.at_ x m).2⟩
    have es1 := K1.get es' (by omega) (by simp <;> omega)
    have ef1 := K1.get ef' (by omega) (by simp <;> omega)
    have ek1 := K1.get ek' (by omega) (by simp <;> omega)
    have el1 := K1.get el' (by omega) (by simp <;> omega)
    have p1 := p.kp K1 fun x m => by have := fsne x m; simp; omega
    have hr : r.toNat < st'.length := by omega
    have eg : st'[r.toNat]? = some st'[r.toNat] := List.getElem?_eq_getElem hr
    obtain ⟨hnum, hnum24⟩ := h24 _ (List.getElem_mem hr)
    simp [o_popAt, es1, r0, hr]
    refine ⟨by omega, ?_⟩
    generalize hv : st'[r.toNat] = v at eg hnum hnum24 ⊢
    rw [erase_map]
    have D2 : Drw "mixed" (h1.put ks (.lst ((st'.eraseIdx r.toNat).map W.int))) d g := D1.put _ (by omega) (by omega)
    have p2 : Pool (h1.put ks (.lst ((st'.eraseIdx r.toNat).map W.int))) fs G := p1.kp (Kp.put (S := [ks]) _ _ (by simp)) fun x m => by have := fsne x m; simp; omega
    have K2 : Kp [d, g, ks, kf] h (h1.put ks (.lst ((st'.eraseIdx r.toNat).map W.int))) := (K.trans (K1.mono (by simp <;> omega))).trans (Kp.put _ _ (by simp))
    have es2 : (h1.put ks (.lst ((st'.eraseIdx r.toNat).map W.int))).get ks = _ := Heap.put_same _ _ _
    have ef2 : (h1.put ks (.lst ((st'.eraseIdx r.toNat).map W.int))).get kf = _ := (Heap.put_ne (by omega)).trans ef1
    have ek2 : (h1.put ks (.lst ((st'.eraseIdx r.toNat).map W.int))).get kk = _ := (Heap.put_ne (by omega)).trans ek1
    have el2 : (h1.put ks (.lst ((st'.eraseIdx r.toNat).map W.int))).get kl = _ := (Heap.put_ne (by omega)).trans el1
    have n2' : h'.nx ≤ (h1.put ks (.lst ((st'.eraseIdx r.toNat).map W.int))).nx := K1.1
    generalize h1.put ks (.lst ((st'.eraseIdx r.toNat).map W.int)) = h2 at D2 p2 K2 es2 ef2 ek2 el2 n2' ⊢
    have ek2' := ek2
    simp only [kindsM, List.map_cons, List.map_nil] at ek2'
    simp [ef2]
    refine nxt_to D2 (by omega) (by omega) fun r3 h3 r30 r31 D3 K3 => ?_
    have ek3 := K3.get ek2 (by omega) (by simp <;> omega)
    have el3 := K3.get el2 (by omega) (by simp <;> omega)
    refine ix_ref ek3 r30 (by simpa [kindsM] using r31) fun w mw => ?_
    obtain ⟨kd, mkd, rfl⟩ := List.mem_map.mp mw
    refine nxt_to D3 (by omega) (by omega) fun r4 h4 r40 r41 D4 K4 => ?_
    have el4 := K4.get el3 (by have := K3.1; omega) (by simp <;> omega)
    refine ix_ref el4 r40 (by simpa [labelsM] using r41) fun w mw => ?_
    obtain ⟨lb, mlb, rfl⟩ := List.mem_map.mp mw
    refine mk_to (kindsM_ok kd mkd) (labelsM_ok lb mlb) hnum fun h5 K5 n5 F5 => ?_
    have K35 : Kp [d, g] h2 h5 := (K3.trans K4).trans (K5.mono (by simp))
    have ef5 := K35.get ef2 (by omega) (by simp <;> omega)
    have es5 := K35.get es2 (by omega) (by simp <;> omega)
    have n34 : h2.nx ≤ h4.nx := Nat.le_trans K3.1 K4.1
    have D5 := D4.kp K5
    simp [ef5, hz]
    refine ⟨by omega, ⟨st'.eraseIdx r.toNat, fs ++ [h4.nx], upG G h4.nx ⟨kd, lb, v, none, none, false⟩, _, _, ?_, ?_, rfl, ?_, ?_, ?_, ?_, ?_, ?_, ?_, ?_⟩⟩
    · rw [List.length_eraseIdx_of_lt hr]; simp only [List.length_cons] at hl; omega
    · rw [List.length_eraseIdx_of_lt hr]; simp; omega
    · exact (K2.trans (K35.mono (by simp <;> omega))).trans (Kp.put _ _ (by simp))
    · exact D5.put _ (by omega) (by omega)
    · rw [Heap.put_ne (by omega)]; exact es5
    · simp
    · refine p2.add (S' := [d, g, kf]) ((K35.mono (by simp <;> omega)).trans (Kp.put _ _ (by simp))) (fun x m => by have := fsne x m; simp; omega) (fun x m => by have := fsne x m; omega) ?_ (by simpa using n5) rfl rfl
      unfold FltAt
      rw [Heap.put_ne (by omega)]; exact F5
    · intro x m
      rcases List.mem_append.mp m with m | m
      · rw [upG_ne (by have := fsne x m; omega)]; exact hf x m
      · obtain rfl := List.mem_singleton.mp m
        rw [upG_same]
        exact ⟨by omega, ⟨mkd, mlb, hnum, hnum24⟩, rfl⟩
    · rw [List.map_append, List.map_cons, List.map_nil, upG_same]
      rw [show fs.map (fun x => (upG G h4.nx ⟨kd, lb, v, none, none, false⟩ x).num) = fs.map (fun x => (G x).num) from List.map_congr_left fun x m => by rw [upG_ne (by have := fsne x m; omega)]]
      have pm : (st'.eraseIdx r.toNat ++ (fs.map (fun x => (G x).num) ++ [v])).Perm (st' ++ fs.map fun x => (G x).num) := by
        refine List.Perm.trans ?_ ((erase_perm eg).append_right _)
        rw [← List.append_assoc]
        refine List.perm_append_comm.trans ?_
        simp
      exact pm.nodup_iff.mpr nd
    · exact fun x m => h24 x (List.mem_of_mem_eraseIdx m)
  · rintro ls h' ⟨⟨st', fs, G, b6, b7, hl, hl2, rfl, K, D', es', ef', p, hf, nd, h24⟩⟩
    refine ⟨rfl, ?_⟩
    have : st' = [] := List.length_eq_zero_iff.mp (by simpa using hl.symm)
    subst this
    exact q h' fs G b6 b7 ⟨p, fun x m => ⟨0, .nil (hf x m).2.2⟩, fun x m => (hf x m).2.1, by simpa using nd⟩ (by simpa using hl2) (fun x m => (hf x m).1) K D' ef'
theorem PoolOk.set {n : Nat} {f : Flt} {h' : Ev.Heap} (p : PoolOk h fs G) (k : Pool h' fs (upG G n f)) (e1 : f.kind = (G n).kind) (e2 : f.label = (G n).label) (e3 : f.num = (G n).num) (e4 : f.ctx = (G n).ctx) : PoolOk h' fs (upG G n f) := by
  have s : SameId G (upG G n f) := SameId.up e1 e2 e3
  refine ⟨k, fun x m => ?_, fun x m => s.good (p.good x m), by rw [s.nums]; exact p.nums⟩
  obtain ⟨j, e⟩ := p.ends x m
  exact ⟨j, Ends.congr (fun z => by unfold upG; by_cases q : z = n <;> simp [q, e4]) e⟩
theorem PoolOk.raised {n hd y k : Nat} {h' : Ev.Heap} (p : PoolOk h fs G) (q : Pool h' fs (EvF.raised G n hd y)) (ne : hd ≠ n) (s : Stop G n hd y k) (m : hd ∈ fs) : PoolOk h' fs (EvF.raised G n hd y) := by
  have i : SameId G (EvF.raised G n hd y) := SameId.raised
  obtain ⟨j0, e0⟩ := p.ends hd m
  refine ⟨q, fun x mx => ?_, fun x mx => i.good (p.good x mx), by rw [i.nums]; exact p.nums⟩
  obtain ⟨j, e⟩ := p.ends x mx
  exact raised_ends ne s e0 e
/-- raise_under in a pool -/
theorem raiseP_to {m : Nat} (p : PoolOk h fs G) (hs : fs.length ≤ 1000) (mn : n ∈ fs) (mm : m ∈ fs) (q : ∀ h' G', Kp fs h h' → PoolOk h' fs G' → SameId G G' → Q .non h') : (F_raise_under [.ref n, .ref m] h).to Q E := by
  have := raise_to (h := h) (n := n) (Q := Q) (E := E) (fs := fs) (G := G) (o := some m) p.pool hs mn (fun _ e => by cases e; exact mm) p.ends (fun _ => q h G (Kp.refl _ _) p (SameId.refl _)) fun hd y k h' e ne s K p' => ?_
  · exact this
  · cases e
    have my := Stop.mem p.pool.ctx s mm
    exact q h' _ (K.mono fun z mz => by simp at mz; rcases mz with rfl | rfl <;> assumption) (p.raised p' ne s mm) SameId.raised
theorem withP_to {o : Option Nat} (p : PoolOk h fs G) (mn : n ∈ fs) (ho : ∀ m, o = some m → m ∈ fs) (q : ∀ h' G', Kp fs h h' → PoolOk h' fs G' → SameId G G' → Q .non h') : (F_with_cause [.ref n, oW o] h).to Q E := by
  refine with_cause_to p.pool mn ho fun h' K p' => ?_
  exact q h' _ (K.mono fun z mz => by simp at mz; subst mz; exact mn) (p.set p' rfl rfl rfl rfl) (SameId.up rfl rfl rfl)
structure J9 (h : Ev.Heap) (d g kk kl ks kf : Nat) (fs : List Nat) (G : Nat → Flt) (a7 : Option W) (xs : List W) (ls : Ls) (h' : Ev.Heap) : Prop where
  of : ∃ G' : Nat → Flt, ∃ a6 a8 a9 : Option W, ls = [some (.ref d), some (.ref kk), some (.ref kl), some (.int fs.length), some (.ref ks), some (.ref kf), a6, a7, a8, a9] ∧ PoolOk h' fs G' ∧ SameId G G' ∧ Kp (d :: g :: fs) h h' ∧ Drw "mixed" h' d g
theorem pool9_to {kk kl ks kf : Nat} {many : Int} {a6 a7 a8 a9 : Option W} (p : PoolOk h fs G) (hm : many = fs.length) (l8 : fs.length ≤ 8) (l1 : 0 < fs.length) (ef : h.get kf = some (.lst (fs.map W.ref))) (D : Drw "mixed" h d g) (nf : kf ∉ fs) (df : d ∉ fs) (gf : g ∉ fs) (lf : kf < h.nx) (ne : kf ≠ d ∧ kf ≠ g)
    (q : ∀ h' G' a6 a8 a9, PoolOk h' fs G' → SameId G G' → Kp (d :: g :: fs) h h' → Drw "mixed" h' d g → h'.get kf = some (.lst (fs.map W.ref)) → P.nx [some (.ref d), some (.ref kk), some (.ref kl), some (.int many), some (.ref ks), some (.ref kf), a6, a7, a8, a9] h') :
    (s_pool_9 [some (.ref d), some (.ref kk), some (.ref kl), some (.int many), some (.ref ks), some (.ref kf), a6, a7, a8, a9] h).to P := by
  have hz : sizeLine = 16777216 := sizeLine_eq
  obtain ⟨ne1, ne2⟩ := ne
  have sub : ∀ x ∈ [d, g], x ∈ d :: g :: fs := by simp
  have subf : ∀ x ∈ fs, x ∈ d :: g :: fs := fun x m => by simp [m]
  subst hm
  unfold s_pool_9
  simp [pick]
  refine nxt_to D (by omega) (by omega) fun r h1 r0 r1 D1 K1 => ?_
  refine ⟨r, rfl, by simp [smallR]; omega, for_inv (J9 h d g kk kl ks kf fs G a7) _ _ _ ⟨⟨G, a6, a8, a9, rfl, p.kp K1 (fun x m => by simp; exact ⟨fun e => df (e ▸ m), fun e => gf (e ▸ m)⟩), SameId.refl _, K1.mono sub, D1⟩⟩ ?_ ?_⟩
  · rintro x xs ls h' ⟨⟨G', b6, b8, b9, rfl, p', i', K', D'⟩⟩
    refine ⟨rfl, _, rfl, ?_⟩
    have ef' := K'.get ef lf (by simp; exact ⟨ne1, ne2, nf⟩)
    have ln := K'.1
    have out : ∀ {ha hb : Ev.Heap}, Kp [d, g] ha hb → ∀ {G0 : Nat → Flt}, PoolOk ha fs G0 → PoolOk hb fs G0 := fun k _ pp => pp.kp k fun x m => by simp; exact ⟨fun e => df (e ▸ m), fun e => gf (e ▸ m)⟩
    unfold s_pool_3 s_pool_4
    simp [pick]
    refine nxt_to D' (by omega) (by omega) fun r2 h2 r20 r21 D2 K2 => ?_
    have ef2 := K2.get ef' (by omega) (by simp <;> omega)
    refine ix_ref ef2 r20 (by simpa using r21) fun w mw => ?_
    obtain ⟨one, mone, rfl⟩ := List.mem_map.mp mw
    refine nxt_to D2 (by omega) (by omega) fun r3 h3 r30 r31 D3 K3 => ?_
    have ef3 := K3.get ef2 (by have := K2.1; omega) (by simp <;> omega)
    refine ix_ref ef3 r30 (by simpa using r31) fun w mw => ?_
    obtain ⟨far, mfar, rfl⟩ := List.mem_map.mp mw
    try simp only []
    refine nxt_to D3 (by omega) (by omega) fun r4 h4 r40 r41 D4 K4 => ?_
    have p4 := out K4 (out K3 (out K2 p'))
    have K04 : Kp (d :: g :: fs) h h4 := K'.trans (((K2.trans K3).trans K4).mono sub)
    simp only [eqO_int, Option.some.injEq, beq_iff_eq, beq_eq_false_iff_ne]
    by_cases z : r4 = 0
    · refine .inr ⟨z, by omega, ?_⟩
      refine nxt_to (D4.new _) (by omega) (by omega) fun r5 h5 r50 r51 D5 K5 => ?_
      have p5 := out K5 (p4.kp (Kp.new [] h4 (.lst [.ref far, .non])) (by simp))
      have K05 : Kp (d :: g :: fs) h h5 := K04.trans ((Kp.new _ _ _).trans (K5.mono sub))
      have e5 : h5.get h4.nx = some (.lst [.ref far, .non]) := K5.get (Heap.new_same _ _) (by simp) (by have := D4.ld; have := D4.lg; simp; omega)
      simp [-o_ix_int]
      refine ix_ref e5 (by omega) (by show r5 / 3 < (2 : Int); omega) fun w mw => ?_
      have fin : ∀ o : Option Nat, (∀ m, o = some m → m ∈ fs) → w = oW o → (F_with_cause [.ref one, w] h5).to (fun _ h1 => J9 h d g kk kl ks kf fs G a7 xs [some (W.ref d), some (W.ref kk), some (W.ref kl), some (W.int fs.length), some (W.ref ks), some (W.ref kf), some x, a7, some (.ref one), some (.ref far)] h1) fun c es h1 => P.ex c es [some (W.ref d), some (W.ref kk), some (W.ref kl), some (W.int fs.length), some (W.ref ks), some (W.ref kf), some x, a7, some (.ref one), some (.ref far)] h1 := fun o ho e => by
        subst e
        refine withP_to p5 mone ho fun h6 G6 K6 p6 i6 => ?_
        exact ⟨⟨G6, _, _, _, rfl, p6, i'.trans i6, K05.trans (K6.mono subf), Drw.keep D5 K6 df gf⟩⟩
      simp only [List.mem_cons, List.not_mem_nil, or_false] at mw
      rcases mw with rfl | rfl
      · exact fin (some far) (fun _ e => by cases e; exact mfar) rfl
      · exact fin none (fun _ e => by cases e) rfl
    · refine .inl ⟨z, raiseP_to p4 (by omega) mone mfar fun h6 G6 K6 p6 i6 => ?_⟩
      exact ⟨⟨G6, _, _, _, rfl, p6, i'.trans i6, K04.trans (K6.mono subf), Drw.keep D4 K6 df gf⟩⟩
  · rintro ls h' ⟨⟨G', b6, b8, b9, rfl, p', i', K', D'⟩⟩
    exact ⟨rfl, q h' G' b6 b8 b9 p' i' K' D' (K'.get ef lf (by simp; exact ⟨ne1, ne2, nf⟩))⟩
/-- the pool: so many new faults, their links within it -/
theorem pool_to (D : Drw "mixed" h d g) (q : ∀ h' k fs G, PoolOk h' fs G → 0 < fs.length → fs.length ≤ 8 → (∀ x ∈ fs, h.nx ≤ x) → h.nx ≤ k → k < h'.nx → k ∉ fs → Kp [d, g] h h' → Drw "mixed" h' d g → h'.get k = some (.lst (fs.map W.ref)) → Q (.ref k) h') : (F_pool [.ref d] h).to Q E := by
  have hz : sizeLine = 16777216 := sizeLine_eq
  have ld := D.ld
  have lg := D.lg
  unfold F_pool s_pool s_pool_5 s_pool_6 s_pool_7 s_pool_10
  simp [hz, pick]
  have D2 := (D.new (.lst (kindsM.map W.str))).new (.lst (labelsM.map W.str))
  have k2 : ((h.new (.lst (kindsM.map W.str))).new (.lst (labelsM.map W.str))).get h.nx = some (.lst (kindsM.map W.str)) := by simp [Heap.new_get]
  have l2 : ((h.new (.lst (kindsM.map W.str))).new (.lst (labelsM.map W.str))).get (h.nx + 1) = some (.lst (labelsM.map W.str)) := by simp [Heap.new_get]
  have K2 : Kp [d, g] h ((h.new (.lst (kindsM.map W.str))).new (.lst (labelsM.map W.str))) := (Kp.new _ _ _).trans (Kp.new _ _ _)
  have n2 : ((h.new (.lst (kindsM.map W.str))).new (.lst (labelsM.map W.str))).nx = h.nx + 2 := rfl
  simp only [kindsM, labelsM, List.map_cons, List.map_nil] at D2 k2 l2 K2 n2
  generalize ((h.new (Ob.lst [W.str "Error", W.str "Stop", W.str "Exit", W.str "Base", W.str "Key"])).new (Ob.lst [W.str "", W.str "a", W.str "b: c", W.str "x (#1)", W.str "two words"])) = h2 at D2 k2 l2 K2 n2 ⊢
  refine nxt_to (b := 8) D2 (by omega) (by omega) fun r h3 r0 r1 D3 K3 => ?_
  have n3 := K3.1
  have k3 := K3.get k2 (by omega) (by simp <;> omega)
  have l3 := K3.get l2 (by omega) (by simp <;> omega)
  simp
  refine ⟨by simp [smallR]; omega, by simp [rangeW]; omega, comp_pure (fun _ => true) (fun w => match w with | .int i => .int (3 * i) | _ => .non) rfl _ (fun w mw => ?_) ?_⟩
  · simp [rangeW] at mw
    obtain ⟨i, li, rfl⟩ := mw
    refine ⟨_, rfl, ?_⟩
    simp [wipeL]
    exact .inl (by decide)
  · have est : ((rangeW 0 (1 + r)).filter fun _ => true).map (fun w => match w with | .int i => W.int (3 * i) | _ => .non) = ((List.range (1 + r).toNat).map fun i : Nat => (3 * (i : Int))).map W.int := by
      rw [List.filter_eq_self.mpr (fun _ _ => rfl)]
      simp [rangeW]
    rw [est]
    generalize hst : ((List.range (1 + r).toNat).map fun i : Nat => (3 * (i : Int))) = st
    have lst : st.length = (1 + r).toNat := by subst hst; simp
    refine pool8_to (st := st) (by rw [lst]; omega) (by omega) (by rw [Heap.new_ne (by simp <;> omega), Heap.new_ne (by omega)]; exact k3) (by rw [Heap.new_ne (by simp <;> omega), Heap.new_ne (by omega)]; exact l3) (by simp [Heap.new_get]) (by simp [Heap.new_get]) ((D3.new _).new _) (by simp <;> omega) (by simp <;> omega) (by simp <;> omega) (by simp <;> omega) (by simp <;> omega) ?_ ?_ fun h5 fs G b6 b7 p5 hl hfs K5 D5 ef5 => ?_
    · subst hst
      unfold List.Nodup
      rw [List.pairwise_map]
      exact (List.nodup_range (n := (1 + r).toNat)).imp fun ne e => ne (by omega)
    · subst hst
      intro x mx
      simp at mx
      obtain ⟨i, li, rfl⟩ := mx
      omega
    · simp at hfs
      simp
      refine pool9_to p5 (by rw [hl, lst]; omega) (by omega) (by omega) ef5 D5 (fun m => by have := hfs _ m; omega) (fun m => by have := hfs _ m; omega) (fun m => by have := hfs _ m; omega) (by have := K5.1; simp at this; omega) (by omega) fun h6 G6 b6 b8 b9 p6 i6 K6 D6 ef6 => ?_
      simp
      have n5 := K5.1
      simp at n5
      have n6 := K6.1
      refine q h6 _ fs G6 p6 (by omega) (by omega) (fun x m => by have := hfs x m; omega) (by omega) (by omega) (fun m => by have := hfs _ m; omega) ?_ D6 ef6
      refine ⟨by omega, fun j lj nj => ?_⟩
      rw [K6.2 j (by omega) (by simp at nj ⊢; exact ⟨nj.1, nj.2, fun m => by have := hfs j m; omega⟩), K5.2 j (by simp <;> omega) (by simp at nj ⊢; omega), Heap.new_ne (by simp <;> omega), Heap.new_ne (by omega), K3.2 j (by omega) nj, K2.2 j lj nj]
end
end EvF
set_option maxRecDepth 100000
namespace EvF
open PySem L2 Ev
def tab_LINE_WAYS : List (Str × Str) := [("  is the cause of", "cause"), ("  was handled at the raise of", "context")]
def s_number_in_1 : SS := sIf (bOr (bNot (bVal (eChain wLe2 wLe2 (eW (.int 1)) (eB bLen (aCons (eVar 0) (aNil))) (eW (.int 9))))) (bNot (bTru (eB bAll (aCons (eComp [1] (.one 1) (iSeq (eVar 0)) (bYes) (eBin wIn (eVar 1) (eW (.str "0123456789")))) (aNil)))))) (sRet (eW .non)) (sNil)
def s_number_in_2 : SS := sRet (eIf (bAnd (bVal (eBin wEq (eBin wIx (eVar 0) (eW (.int 0))) (eW (.str "0")))) (bVal (eBin wGt2 (eB bLen (aCons (eVar 0) (aNil))) (eW (.int 1))))) (eW .non) (eB bInt (aCons (eVar 0) (aNil))))
def s_number_in : SS := sSeq (s_number_in_1) (s_number_in_2)
@[irreducible] def F_number_in : List W → Ev.Heap → R := fnOf 1 2 s_number_in
def s_fault_in_1 : SS := sAsg (eBm "str" mPart (eVar 0) (aCons (eW (.str ": ")) (aNil))) (gTp [gNm 1, gNm 2, gNm 3])
def s_fault_in_2 : SS := sAsg (eBm "str" mRpart (eVar 3) (aCons (eW (.str " (#")) (aNil))) (gTp [gNm 4, gNm 5, gNm 6])
def s_fault_in_3 : SS := sIf (bOr (bVal (eBin wEq (eVar 2) (eW (.str "")))) (bOr (bVal (eBin wEq (eVar 5) (eW (.str "")))) (bNot (bTru (eBm "str" mEnds (eVar 6) (aCons (eW (.str ")")) (aNil))))))) (sRet (eW .non)) (sNil)
def s_fault_in_4 : SS := sAsg (eCall (fun xs ys h => F_number_in (pick [(false, 0)] xs ys) h) 1 0 (aCons (eSl (eVar 6) (oNone) (oSome (eUn wNeg (eW (.int 1))))) (aNil)) (aNil)) (gNm 7)
def s_fault_in_5 : SS := sIf (bOr (bVal (eBin wIs (eVar 7) (eW .non))) (bOr (bNot (bTru (eCall (fun xs ys h => F_is_kind (pick [(false, 0)] xs ys) h) 1 0 (aCons (eVar 1) (aNil)) (aNil)))) (bNot (bTru (eCall (fun xs ys h => F_is_label (pick [(false, 0)] xs ys) h) 1 0 (aCons (eVar 4) (aNil)) (aNil)))))) (sRet (eW .non)) (sNil)
def s_fault_in_6 : SS := sRet (eTup (aCons (eVar 7) (aCons (eVar 1) (aCons (eVar 4) (aNil)))))
def s_fault_in : SS := sSeq (s_fault_in_1) (sSeq (s_fault_in_2) (sSeq (s_fault_in_3) (sSeq (s_fault_in_4) (sSeq (s_fault_in_5) (s_fault_in_6)))))
@[irreducible] def F_fault_in : List W → Ev.Heap → R := fnOf 1 8 s_fault_in
def s_s1_read_rows_1 : SS := sAsg (eTabGet tab_LINE_WAYS (eBin wIx (eVar 0) (eVar 4))) (gNm 3)
def s_s1_read_rows_2 : SS := sIf (bVal (eBin wIs (eVar 3) (eW .non))) (sBad) (sNil)
def s_s1_read_rows_3 : SS := sCnt
def s_s1_read_rows_4 : SS := sIf (bVal (eBin wEq (eBin wMod (eBin wSub (eVar 4) (eVar 1)) (eW (.int 2))) (eW (.int 1)))) (sSeq (s_s1_read_rows_1) (sSeq (s_s1_read_rows_2) (s_s1_read_rows_3))) (sNil)
def s_s1_read_rows_5 : SS := sAsg (eCall (fun xs ys h => F_fault_in (pick [(false, 0)] xs ys) h) 1 0 (aCons (eBin wIx (eVar 0) (eVar 4)) (aNil)) (aNil)) (gNm 5)
def s_s1_read_rows_6 : SS := sIf (bOr (bVal (eBin wIs (eVar 5) (eW .non))) (bVal (eBin wIn (eBin wIx (eVar 5) (eW (.int 0))) (eComp [6] (.one 6) (iSeq (eVar 2)) (bYes) (eBin wIx (eVar 6) (eW (.int 0))))))) (sBad) (sNil)
def s_s1_read_rows_7 : SS := sIf (bVal (eBin wNe (eVar 2) (eLst (aNil)))) (sAsg (eTup (aStar (eSl (eBin wIx (eVar 2) (eUn wNeg (eW (.int 1)))) (oNone) (oSome (eW (.int 3)))) (aCons (eVar 3) (aNil)))) (gSb (eVar 2) (eUn wNeg (eW (.int 1))))) (sNil)
def s_s1_read_rows_8 : SS := sExpr (eBm "list" mAppend (eVar 2) (aCons (eTup (aStar (eVar 5) (aCons (eW .non) (aNil)))) (aNil)))
def s_s1_read_rows_9 : SS := sPar2 2 3 (aCons (eLst (aNil)) (aCons (eW .non) (aNil)))
def s_s1_read_rows_10 : SS := sFor (.one 4) (iRange2 (aCons (eVar 1) (aCons (eB bLen (aCons (eVar 0) (aNil))) (aNil)))) (sSeq (s_s1_read_rows_4) (sSeq (s_s1_read_rows_5) (sSeq (s_s1_read_rows_6) (sSeq (s_s1_read_rows_7) (s_s1_read_rows_8)))))
def s_s1_read_rows_11 : SS := sIf (bVal (eBin wEq (eBin wMod (eBin wSub (eB bLen (aCons (eVar 0) (aNil))) (eVar 1)) (eW (.int 2))) (eW (.int 0)))) (sBad) (sNil)
def s_s1_read_rows_12 : SS := sRet (eRev (eVar 2))
def s_s1_read_rows : SS := sSeq (s_s1_read_rows_9) (sSeq (s_s1_read_rows_10) (sSeq (s_s1_read_rows_11) (s_s1_read_rows_12)))
@[irreducible] def F_s1_read_rows : List W → Ev.Heap → R := fnOf 2 7 s_s1_read_rows
def s_read_report_1 : SS := sAsg (eCall (fun xs ys h => F_number_in (pick [(false, 0)] xs ys) h) 1 0 (aCons (eSl (eBin wIx (eVar 1) (eW (.int 0))) (oSome (eB bLen (aCons (eW (.str "  repeats from #")) (aNil)))) (oNone)) (aNil)) (aNil)) (gNm 2)
def s_read_report_2 : SS := sIf (bVal (eBin wIs (eVar 2) (eW .non))) (sBad) (sNil)
def s_read_report_3 : SS := sIf (bNot (bTru (eB (bIsi clNo) (aCons (eVar 0) (aCons (eW (.ty "str")) (aNil)))))) (sBad) (sNil)
def s_read_report_4 : SS := sPar2 1 2 (aCons (eBm "str" mSplit (eVar 0) (aCons (eW (.str "\n")) (aNil))) (aCons (eW .non) (aNil)))
def s_read_report_5 : SS := sAsg (eBm "str" mStarts (eBin wIx (eVar 1) (eW (.int 0))) (aCons (eW (.str "  repeats from #")) (aNil))) (gNm 3)
def s_read_report_6 : SS := sIf (bTru (eVar 3)) (sSeq (s_read_report_1) (s_read_report_2)) (sNil)
def s_read_report_7 : SS := sAsg (eCall (fun xs ys h => F_s1_read_rows (pick [(false, 0), (false, 1)] xs ys) h) 2 0 (aCons (eVar 1) (aCons (eB bInt (aCons (eVar 3) (aNil))) (aNil))) (aNil)) (gNm 4)
def s_read_report_8 : SS := sIf (bAnd (bTru (eVar 3)) (bVal (eBin wNin (eVar 2) (eComp [5] (.one 5) (iSeq (eVar 4)) (bYes) (eBin wIx (eVar 5) (eW (.int 0))))))) (sBad) (sNil)
def s_read_report_9 : SS := sRet (eTup (aCons (eVar 4) (aCons (eVar 2) (aNil))))
def s_read_report : SS := sSeq (s_read_report_3) (sSeq (s_read_report_4) (sSeq (s_read_report_5) (sSeq (s_read_report_6) (sSeq (s_read_report_7) (sSeq (s_read_report_8) (s_read_report_9))))))
@[irreducible] def F_read_report : List W → Ev.Heap → R := fnOf 1 6 s_read_report
end EvF
set_option maxRecDepth 100000
/-! EvRep: reports, read. -/
namespace EvF
open PySem L2 Ev
open TL (tl tl_append tl_num numL numL_lt numL_step numL_digits numL_ne numL_free numL_len ext_tl len_tl)
open PyData (strOk)
/-! texts -/
theorem numL_head {n : Nat} (h : 1 ≤ n) : ∃ c t, numL n = c :: t ∧ c ≠ 48 := by
  induction n using Nat.strongRecOn with
  | _ n ih =>
    by_cases z : n < 10
    · exact ⟨48 + n, [], numL_lt z, by omega⟩
    · obtain ⟨c, t, e, ne⟩ := ih (n / 10) (by omega) (by omega)
      exact ⟨c, t ++ [48 + n % 10], by rw [numL_step (by omega), e]; rfl, ne⟩
abbrev nS (n : Nat) : Str := Str.ofString (toString ((n : Nat) : Int))
theorem nS_len {n : Nat} (h : n < 1000000000) : 1 ≤ (nS n).length ∧ (nS n).length ≤ 9 := by
  have e : (nS n).length = (numL n).length := by rw [len_tl, tl_num]
  rw [e]
  exact ⟨List.length_pos_iff.mpr (numL_ne n), numL_len (by decide) (by omega)⟩
/-- one sign's text in the digits -/
theorem digit_in {h : Ev.Heap} : ∀ c, 48 ≤ c → c ≤ 57 → inO h (.str ⟨#[c]⟩) (.str "0123456789") = some true := by
  intro c h1 h2
  have : c = 48 ∨ c = 49 ∨ c = 50 ∨ c = 51 ∨ c = 52 ∨ c = 53 ∨ c = 54 ∨ c = 55 ∨ c = 56 ∨ c = 57 := by omega
  show some (!(Builtin.Str.occurrences "0123456789" (⟨#[c]⟩ : Str) 0 ("0123456789" : Str).length 1).isEmpty) = some true
  rcases this with rfl | rfl | rfl | rfl | rfl | rfl | rfl | rfl | rfl | rfl <;> decide +kernel
section
variable {h : Ev.Heap} {Q : W → Ev.Heap → Prop} {E : Nat → List (Nat × W) → Ev.Heap → Prop}
theorem strOk_iff {s : Str} : strOk s = true ↔ ∀ c ∈ tl s, c < 1114112 := by
  unfold strOk
  rw [← Array.all_toList, List.all_eq_true]
  simp [tl]
theorem eq_str {s t : Str} (h1 : strOk s = true) (h2 : strOk t = true) : eqO h (.str s) (.str t) = some (decide (s = t)) := by
  rw [eqO_str h1 h2]
  by_cases z : s = t
  · simp [z]
  · simp [z]
theorem number_in_to {n : Nat} (hn : n < 1000000000) (q : ∀ h', Kp [] h h' → Q (.int n) h') : (F_number_in [.str (nS n)] h).to Q E := by
  have hz : sizeLine = 16777216 := sizeLine_eq
  obtain ⟨l1, l9⟩ := nS_len hn
  have et : (nS n).cps.toList = numL n := tl_num n
  unfold F_number_in s_number_in s_number_in_1 s_number_in_2
  simp [hz, et]
  have dg := numL_digits n
  refine ⟨by omega, .inr ⟨by omega, .inr ⟨by omega, by show (nS n).length ≤ _; omega, comp_pure (fun _ => true) (fun _ => .bl true) rfl _ (fun w mw => ?_) ?_⟩⟩⟩
  · obtain ⟨c, mc, rfl⟩ := List.mem_map.mp mw
    refine ⟨_, rfl, ?_⟩
    obtain ⟨d1, d2⟩ := dg c mc
    simp [wipeL, digit_in c d1 d2]
  · have ebl : ∀ l : List Nat, blsOf (((l.map fun c => W.str ⟨#[c]⟩).filter fun _ => true).map fun _ => W.bl true) = some (l.map fun _ => true) := by
      intro l
      induction l with
      | nil => rfl
      | cons c l ih =>
        simp only [List.map_cons, List.filter_cons_of_pos]
        simp only [blsOf, ih, Option.map_some]
    refine ⟨_, ebl _, .inr ⟨by simp, by omega, ?_⟩⟩
    have hi : PySem.intText? (nS n) = some (n : Int) := TL.int_num (by have e : (nS n).length = (numL n).length := (len_tl _).trans (by rw [tl_num]); omega)
    show ∃ c, _
    have fin := q _ (Kp.new [] h (.lst (((numL n).map fun c => W.str ⟨#[c]⟩).filter (fun _ => true) |>.map fun _ => W.bl true)))
    by_cases z : n = 0
    · subst z
      have e0 : numL 0 = [48] := numL_lt (by omega)
      have l0 : (nS 0).length = 1 := by rw [len_tl, tl_num, e0]; rfl
      rw [e0] at fin ⊢
      refine ⟨48, rfl, .inr ⟨?_, by omega, .inl ⟨by omega, 0, hi, by omega, fin⟩⟩⟩
      rw [eq_str (by decide +kernel) (by decide +kernel)]
      decide +kernel
    · obtain ⟨c, t, e, ne⟩ := numL_head (n := n) (by omega)
      have hc := dg c (by rw [e]; simp)
      refine ⟨c, by rw [e]; simp [atI, ixN], .inl ⟨?_, n, hi, by omega, fin⟩⟩
      rw [eq_str (by rw [strOk_iff]; intro x m; simp [tl] at m; omega) (by decide +kernel)]
      have : (⟨#[c]⟩ : Str) ≠ "0" := fun z => by
        have := congrArg tl z
        have e48 : tl ("0" : Str) = [48] := by decide
        rw [e48] at this
        simp [tl] at this
        exact ne this
      simp [this]
/-! a line -/
structure Row where
  num : Nat
  kind : Str
  label : Str
  way : Option Str
structure GoodR (r : Row) : Prop where
  n : r.num < 1000000000
  k : kindB r.kind.cps.toList = true
  l : labelB r.label.cps.toList = true
def lineOf (r : Row) : Str := r.kind ++ ": " ++ r.label ++ " (#" ++ nS r.num ++ ")"
theorem S_tl (s : Str) : S (tl s) = s := S_self s
theorem kind_free {k : Str} (h : kindB k.cps.toList = true) {c : Nat} (hc : c < 65 ∨ 122 < c) : c ∉ tl k := fun m => by
  unfold kindB at h
  simp only [Bool.and_eq_true, List.all_eq_true] at h
  have := h.2 c m
  unfold letterB at this
  simp at this
  omega
theorem label_free {k : Str} (h : labelB k.cps.toList = true) {c : Nat} (hc : c < 32 ∨ 126 < c) : c ∉ tl k := fun m => by
  unfold labelB at h
  simp only [Bool.and_eq_true, List.all_eq_true] at h
  have := h.2 c m
  simp at this
  omega
theorem kind_ok {k : Str} (h : kindB k.cps.toList = true) : strOk k = true := strOk_iff.mpr fun c m => Nat.lt_of_not_le fun z => kind_free h (.inr (by omega)) m
theorem label_ok {k : Str} (h : labelB k.cps.toList = true) : strOk k = true := strOk_iff.mpr fun c m => Nat.lt_of_not_le fun z => label_free h (.inr (by omega)) m
theorem nS_ok (n : Nat) : strOk (nS n) = true := strOk_iff.mpr fun c m => by
  rw [tl_num] at m
  have := numL_digits n c m
  omega
theorem kind_len {k : Str} (h : kindB k.cps.toList = true) : 1 ≤ k.length ∧ k.length ≤ 12 := by
  unfold kindB at h
  simp only [Bool.and_eq_true, decide_eq_true_eq] at h
  rw [len_tl]
  exact h.1.1
theorem label_len {k : Str} (h : labelB k.cps.toList = true) : k.length ≤ 40 := by
  unfold labelB at h
  simp only [Bool.and_eq_true, decide_eq_true_eq] at h
  rw [len_tl]
  exact h.1
/-- cut at the last mark -/
theorem rpart_app {a b : Str} (hb : 40 ∉ tl b) : rpart (a ++ " (#" ++ b) " (#" = (a, (" (#" : Str), b) := by
  have ey : tl (" (#" : Str) = [32, 40, 35] := by decide
  have el : tl (a ++ " (#" ++ b) = tl a ++ [32, 40, 35] ++ tl b := by rw [tl_append, tl_append, ey]
  have hne : tl (" (#" : Str) ≠ [] := by rw [ey]; simp
  have at_ : ∀ i, PySem.StrLaws.At (a ++ " (#" ++ b) " (#" (a ++ " (#" ++ b).length i ↔ TL.pre [32, 40, 35] ((tl a ++ [32, 40, 35] ++ tl b).drop i) = true := fun i => by
    rw [TL.at_iff hne, ey, el]
  have here : PySem.StrLaws.At (a ++ " (#" ++ b) " (#" (a ++ " (#" ++ b).length (tl a).length := by
    rw [at_, List.append_assoc, List.drop_left]
    exact TL.pre_self _ _
  have late : ∀ i, (tl a).length < i → ¬ PySem.StrLaws.At (a ++ " (#" ++ b) " (#" (a ++ " (#" ++ b).length i := fun i hi z => by
    rw [at_] at z
    have hd : (tl a ++ [32, 40, 35] ++ tl b).drop i = ([40, 35] ++ tl b).drop (i - (tl a).length - 1) := by
      rw [List.append_assoc, List.drop_append, List.drop_eq_nil_of_le (by omega), List.nil_append]
      conv => lhs; rw [show i - (tl a).length = (i - (tl a).length - 1) + 1 by omega]
      rfl
    rw [hd] at z
    generalize i - (tl a).length - 1 = j at z
    have no40 : ∀ l : List Nat, 40 ∉ l → TL.pre [32, 40, 35] l = true → False := fun l hl q => by
      match l, hl, q with
      | [], _, q => simp [TL.pre] at q
      | [_], _, q => simp [TL.pre] at q
      | x :: y :: r, hl, q =>
        by_cases e : y = 40
        · subst e; exact hl (by simp)
        · simp [TL.pre] at q
          exact e q.2.1
    match j, z with
    | 0, z => simp [TL.pre] at z
    | j + 1, z =>
      refine no40 _ (fun m => ?_) z
      have m2 : 40 ∈ (35 :: tl b) := List.mem_of_mem_drop m
      rcases List.mem_cons.mp m2 with q | q
      · omega
      · exact hb q
  unfold rpart
  rcases PySem.StrLaws.last_spec (a ++ " (#" ++ b) " (#" with ⟨_, n⟩ | ⟨i, e, hi, hn⟩
  · exact (n _ here).elim
  · have : i = (tl a).length := by
      rcases Nat.lt_trichotomy i (tl a).length with c | c | c
      · exact (hn _ c here).elim
      · exact c
      · exact (late i c hi).elim
    subst this
    rw [e]
    have e1 : Builtin.Str.strSub (a ++ " (#" ++ b) 0 (tl a).length = a := ext_tl (by
      rw [TL.tl_strSub, el, List.append_assoc]; simp)
    have e2 : Builtin.Str.strSub (a ++ " (#" ++ b) ((tl a).length + (" (#" : Str).length) (a ++ " (#" ++ b).length = b := ext_tl (by
      rw [TL.tl_strSub_end, el]
      have : (" (#" : Str).length = 3 := by decide
      rw [this, List.append_assoc, List.drop_append, List.drop_eq_nil_of_le (by omega), List.nil_append, show (tl a).length + 3 - (tl a).length = 3 by omega]
      rfl)
    simp only [e1, e2]

theorem str_assoc (a b c : Str) : a ++ b ++ c = a ++ (b ++ c) := ext_tl (by simp only [tl_append, List.append_assoc])
def restOf (r : Row) : Str := r.label ++ " (#" ++ (nS r.num ++ ")")
theorem line_eq (r : Row) : lineOf r = r.kind ++ ": " ++ restOf r := by
  unfold lineOf restOf
  simp only [str_assoc]
theorem part_line {r : Row} (g : GoodR r) : Txt.partition (lineOf r) ": " = (r.kind, (": " : Str), restOf r) := by
  rw [line_eq]
  exact TL.partition_app (y := ": ") (s := 58) (S := [32]) (by decide +kernel) (kind_free g.k (.inl (by decide)))
theorem par_free (n : Nat) : 40 ∉ tl (nS n ++ ")") := by
  rw [tl_append, tl_num]
  intro m
  rcases List.mem_append.mp m with m | m
  · exact numL_free (.inl (by decide)) m
  · revert m; decide +kernel
theorem rpart_rest (r : Row) : rpart (restOf r) " (#" = (r.label, (" (#" : Str), nS r.num ++ ")") := rpart_app (par_free _)
theorem ends_par (n : Nat) : Txt.endswith (nS n ++ ")") ")" = true := by
  rw [PySem.W.KAf.ends_right (by decide +kernel)]
  decide +kernel
theorem cut_par (n : Nat) : cutS (nS n ++ ")") none (some (-1)) = nS n := ext_tl (by
  have e : (nS n ++ ")" : Str).length = (nS n).length + 1 := by rw [len_tl, tl_append, List.length_append, ← len_tl]; rfl
  have l := len_tl (nS n)
  show ((tl (nS n ++ (")" : Str))).drop 0).take (HT.sIx (nS n ++ ")" : Str).length (nS n ++ ")" : Str).length (some (-1)) - 0) = tl (nS n)
  have : HT.sIx (nS n ++ ")" : Str).length (nS n ++ ")" : Str).length (some (-1)) = (nS n).length := by
    rw [e]
    show (if (-1 : Int) < 0 then ((-1 : Int) + (((nS n).length + 1 : Nat) : Int)).toNat else min (-1 : Int).toNat ((nS n).length + 1)) = _
    rw [if_pos (by omega)]; omega
  rw [this, tl_append, List.drop_zero, Nat.sub_zero, List.take_append_of_le_length (by omega), List.take_of_length_le (by omega)])
theorem line_len {r : Row} (g : GoodR r) : (lineOf r).length ≤ 67 := by
  have h1 := kind_len g.k
  have h2 := label_len g.l
  have h3 := nS_len g.n
  have e : (lineOf r).length = r.kind.length + 2 + r.label.length + 3 + (nS r.num).length + 1 := by
    unfold lineOf
    simp only [len_tl, tl_append, List.length_append]
    rfl
  omega
theorem rest_len {r : Row} (g : GoodR r) : (restOf r).length ≤ 67 := by
  have h1 := line_len g
  rw [line_eq, len_tl, tl_append, List.length_append, ← len_tl (restOf r)] at h1
  omega
theorem fault_in_to {r : Row} (g : GoodR r) (q : ∀ h', Kp [] h h' → Q (.tup [.int r.num, .str r.kind, .str r.label]) h') : (F_fault_in [.str (lineOf r)] h).to Q E := by
  have hz : sizeLine = 16777216 := sizeLine_eq
  have l1 := line_len g
  have l2 := rest_len g
  have l3 := kind_len g.k
  have l4 := label_len g.l
  have l5 := nS_len g.n
  have c2 : ((": " : Str).length == 0) = false := by decide +kernel
  have c3 : ((" (#" : Str).length == 0) = false := by decide +kernel
  have n1 : eqO h (.str ": ") (.str "") = some false := by rw [eq_str (by decide +kernel) (by decide +kernel)]; decide +kernel
  have n2 : eqO h (.str " (#") (.str "") = some false := by rw [eq_str (by decide +kernel) (by decide +kernel)]; decide +kernel
  have lp : (nS r.num ++ ")" : Str).length = (nS r.num).length + 1 := by rw [len_tl, tl_append, List.length_append, ← len_tl]; rfl
  unfold F_fault_in s_fault_in s_fault_in_1 s_fault_in_2 s_fault_in_3 s_fault_in_4 s_fault_in_5 s_fault_in_6
  simp [part_line g, rpart_rest, ends_par, wTyp, c2, c3, n1, n2, hz, cut_par, pick]
  refine ⟨by omega, by omega, by omega, number_in_to g.n fun h1 K1 => .inl ⟨rfl, ?_⟩⟩
  rw [← S_tl r.kind, ← S_tl r.label]
  refine is_kind_to (by have := len_tl r.kind; omega) fun h2 K2 => ?_
  refine .inr ⟨by rw [show kindB (tl r.kind) = true from g.k]; rfl, ?_⟩
  refine is_label_to (by have := len_tl r.label; omega) fun h3 K3 => ?_
  refine .inr ⟨by rw [show labelB (tl r.label) = true from g.l]; rfl, ?_⟩
  rw [S_tl, S_tl]
  exact q h3 ((K1.trans K2).trans K3)

theorem canLay_ints : ∀ ns : List Int, PyData.canLayAll0 (ns.map PyData.int) = true
  | [] => rfl
  | n :: ns => by simp only [List.map_cons, PyData.canLayAll0, canLay_ints ns]; rfl
theorem depth_ints : ∀ ns : List Int, PyData.depthAll (ns.map PyData.int) = 0
  | [] => by simp only [List.map_nil, PyData.depthAll]
  | n :: ns => by simp only [List.map_cons, PyData.depthAll, depth_ints ns, PyData.depth]; rfl
theorem inO_ints {k : Nat} {ns : List Int} {n : Int} (e : h.get k = some (.lst (ns.map W.int))) : inO h (.int n) (.ref k) = some (decide (n ∈ ns)) := by
  have e1 : toD h 60 (.ref k) = some (.list (ns.map PyData.int)) := by
    have := toD_lst (m := 59) (g := fun w => match w with | .int i => PyData.int i | _ => .none) e fun x m => by
      obtain ⟨i, _, rfl⟩ := List.mem_map.mp m
      rfl
    rw [this, List.map_map]
    rfl
  have s1 : SeqAt.shaped (.int n) = true := by simp [SeqAt.shaped, PyData.canLay0, PyData.depth]
  have s2 : SeqAt.shaped (.list (ns.map PyData.int)) = true := by
    simp only [SeqAt.shaped, PyData.canLay0, canLay_ints, PyData.depth, depth_ints]
    rfl
  show (match toD h 60 (.int n), toD h 60 (.ref k) with
    | some d, some (.list ds) => if (SeqAt.shaped d && SeqAt.shaped (.list ds)) = true then some (ds.any fun z => PyData.eqv z d) else none
    | _, _ => none) = _
  rw [e1]
  show (if (SeqAt.shaped (.int n) && SeqAt.shaped (.list (ns.map PyData.int))) = true then some ((ns.map PyData.int).any fun z => PyData.eqv z (.int n)) else none) = _
  rw [s1, s2]
  simp only [Bool.and_self, if_true, List.any_map]
  congr 1
  clear e e1 s2
  induction ns with
  | nil => rfl
  | cons a ns ih =>
    rw [List.any_cons, ih]
    simp only [Function.comp, PyData.eqv]
    by_cases z : n = a
    · subst z; simp
    · have z' : ¬ a = n := fun e => z e.symm
      simp [z, z']
def wayW : Option Str → W
  | none => .non
  | some s => .str s
def rowW' (r : Row) : W := .tup [.int r.num, .str r.kind, .str r.label, wayW r.way]
def rowN (r : Row) : W := .tup [.int r.num, .str r.kind, .str r.label, .non]
def wordOf : Option Str → Str := fun w => if w = some ("cause" : Str) then "  is the cause of" else "  was handled at the raise of"
/-- the lines of rows, the last fault first -/
def linesOf : List Row → List Str
  | [] => []
  | [r] => [lineOf r]
  | r :: s :: R => lineOf r :: wordOf r.way :: linesOf (s :: R)
def fnd (done : List Row) (p : Option Row) : List W := done.map rowW' ++ (p.map rowN).toList
def WayOk (r : Row) : Prop := r.way = some ("cause" : Str) ∨ r.way = some ("context" : Str)
theorem word_way {r : Row} (w : WayOk r) : tabGet tab_LINE_WAYS (wordOf r.way) = wayW r.way := by
  have f1 : tab_LINE_WAYS.find? (fun p => p.1 == wordOf (some ("cause" : Str))) = some (("  is the cause of" : Str), ("cause" : Str)) := by decide +kernel
  have f2 : tab_LINE_WAYS.find? (fun p => p.1 == wordOf (some ("context" : Str))) = some (("  was handled at the raise of" : Str), ("context" : Str)) := by decide +kernel
  unfold tabGet
  rcases w with e | e
  · rw [e, f1]; rfl
  · rw [e, f2]; rfl
theorem at0 {x : W} {xs : List W} : atI (x :: xs) 0 = some x := by simp [atI, ixN]
theorem ix_last {α : Type} (l : List α) (x : α) : ixN (l ++ [x]).length (-1) = some l.length := by
  unfold ixN
  rw [if_neg (by omega), if_pos (by simp; omega)]
  simp
  omega
theorem ix_last' (n : Nat) : ixN (n + 1) (-1) = some n := by
  unfold ixN
  rw [if_neg (by omega), if_pos (by omega)]
  congr 1
  omega
theorem cut3 {a b c d : W} : wCut [a, b, c, d] none (some 3) = [a, b, c] := rfl
theorem at_last {α : Type} (l : List α) (x : α) : atI (l ++ [x]) (-1) = some x := by
  unfold atI
  rw [ix_last]
  simp
section
variable {P : Po}
def Bd : SS := sSeq (s_s1_read_rows_4) (sSeq (s_s1_read_rows_5) (sSeq (s_s1_read_rows_6) (sSeq (s_s1_read_rows_7) (s_s1_read_rows_8))))
theorem line_to {kl kf : Nat} {Ls : List Str} {i first : Nat} {r : Row} {done : List Row} {p : Option Row} {a5 a6 : Option W} (g : GoodR r) (ei : Ls[i]? = some (lineOf r)) (el : h.get kl = some (.lst (Ls.map W.str))) (ef : h.get kf = some (.lst (fnd done p)))
    (ev : ((i : Int) - first) % 2 = 0) (nd : ∀ x ∈ done ++ p.toList, x.num ≠ r.num) (hp : p = none → done = []) (lk : kf < h.nx) (l9 : done.length ≤ 1000)
    (q : ∀ h' a5 a6, Kp [kf] h h' → h'.get kf = some (.lst (fnd (done ++ p.toList) (some r))) → P.nx [some (.ref kl), some (.int first), some (.ref kf), some (wayW (p.bind (·.way))), some (.int i), a5, a6] h') :
    (Bd [some (.ref kl), some (.int first), some (.ref kf), some (wayW (p.bind (·.way))), some (.int i), a5, a6] h).to P := by
  have hz : sizeLine = 16777216 := sizeLine_eq
  have li := (List.getElem?_eq_some_iff.mp ei).1
  have ai : atI (Ls.map W.str) (i : Int) = some (.str (lineOf r)) := by
    unfold atI ixN
    rw [if_pos (by omega), if_pos (by simpa using li)]
    simp [ei]
  unfold Bd s_s1_read_rows_4 s_s1_read_rows_5 s_s1_read_rows_6 s_s1_read_rows_7 s_s1_read_rows_8
  simp [ev, el, ai, pick]
  refine fault_in_to g fun h1 K1 => ?_
  have ef1 := K1.get ef lk (by simp)
  have hk1 := K1.1
  have lF : (fnd done p).length ≤ 1001 := by
    unfold fnd
    cases p <;> simp <;> omega
  simp [W.eqb, at0]
  refine ⟨_, ef1, by omega, comp_pure (fun _ => true) (fun w => match w with | .tup (x :: _) => x | _ => .non) (by simp [gOk, lstAt, ef1, W.eqbs_refl]) _ (fun w mw => ?_) ?_⟩
  · have : ∃ x : Row, w = rowW' x ∨ w = rowN x := by
      unfold fnd at mw
      rcases List.mem_append.mp mw with m | m
      · obtain ⟨x, _, rfl⟩ := List.mem_map.mp m
        exact ⟨x, .inl rfl⟩
      · cases p with
        | none => simp at m
        | some x => simp at m; exact ⟨x, .inr m⟩
    obtain ⟨x, rfl | rfl⟩ := this
    · refine ⟨_, rfl, ?_⟩
      simp [wipeL, rowW', atI, ixN]
    · refine ⟨_, rfl, ?_⟩
      simp [wipeL, rowN, atI, ixN]
  · have ey : ((fnd done p).filter fun _ => true).map (fun w => match w with | .tup (x :: _) => x | _ => .non) = ((done ++ p.toList).map fun x => (x.num : Int)).map W.int := by
      rw [List.filter_eq_self.mpr (fun _ _ => rfl)]
      unfold fnd
      rw [List.map_append, List.map_map, List.map_append, List.map_append, List.map_map]
      cases p <;> rfl
    rw [ey]
    have e2 : (h1.new (.lst (((done ++ p.toList).map fun x => (x.num : Int)).map W.int))).get h1.nx = _ := Heap.new_same _ _
    have ef2 : (h1.new (.lst (((done ++ p.toList).map fun x => (x.num : Int)).map W.int))).get kf = _ := (Heap.new_ne (by omega)).trans ef1
    have K2 : Kp [] h (h1.new (.lst (((done ++ p.toList).map fun x => (x.num : Int)).map W.int))) := K1.trans (Kp.new _ _ _)
    generalize hh : h1.new (.lst (((done ++ p.toList).map fun x => (x.num : Int)).map W.int)) = h2 at e2 ef2 K2 ⊢
    have n2 : h2.nx = h1.nx + 1 := by rw [← hh]; rfl
    have nm : ¬ ((r.num : Int) ∈ (done ++ p.toList).map fun x => (x.num : Int)) := by
      intro m
      obtain ⟨x, mx, ex⟩ := List.mem_map.mp m
      exact nd x mx (by omega)
    have ei2 := inO_ints (n := (r.num : Int)) e2
    rw [decide_eq_false nm] at ei2
    refine ⟨ei2, ?_⟩
    have en := eq_nil (h := h2.new (.lst [])) (n := kf) (m := h2.nx) (xs := fnd done p) (by rw [Heap.new_ne (by omega)]; exact ef2) (by simp)
    have ef3 : (h2.new (.lst [])).get kf = _ := (Heap.new_ne (by omega)).trans ef2
    have K3 : Kp [kf] h (h2.new (.lst [])) := (K2.trans (Kp.new _ _ _)).mono (by simp)
    rw [← n2]
    cases p with
    | none =>
      obtain rfl := hp rfl
      have e0 : fnd [] none = [] := rfl
      rw [e0] at en ef3
      refine .inr ⟨en, ?_⟩
      simp [wTyp, ef3, hz]
      exact q _ _ _ (K3.trans (Kp.put _ _ (by simp))) (by simp [fnd, rowN])
    | some y =>
      have e0 : fnd done (some y) = done.map rowW' ++ [rowN y] := rfl
      rw [e0] at en ef3
      refine .inl ⟨by rw [en]; simp, ?_⟩
      simp [ef3, at_last, rowN, cut3, ix_last', wTyp, hz]
      refine ⟨by omega, ?_⟩
      have ed : (h2.new (.lst [])).put kf (.lst (done.map rowW' ++ [.tup [.int y.num, .str y.kind, .str y.label, wayW y.way]])) = (h2.new (.lst [])).put kf (.lst (done.map rowW' ++ [rowW' y])) := rfl
      have := q _ (some (.tup [.int r.num, .str r.kind, .str r.label])) a6 ((K3.trans (Kp.put (n := kf) _ (.lst (done.map rowW' ++ [rowW' y])) (by simp))).trans (Kp.put (n := kf) _ (.lst (done.map rowW' ++ [rowW' y] ++ [rowN r])) (by simp))) (by simp [fnd])
      simpa [rowW', rowN] using this
/-- a word between two lines -/
theorem word_to {kl kf : Nat} {Ls : List Str} {i first : Nat} {r : Row} {a3 a5 a6 : Option W} (w : WayOk r) (ei : Ls[i]? = some (wordOf r.way)) (el : h.get kl = some (.lst (Ls.map W.str))) (ev : ((i : Int) - first) % 2 = 1)
    (q : P.ct [some (.ref kl), some (.int first), some (.ref kf), some (wayW r.way), some (.int i), a5, a6] h) :
    (Bd [some (.ref kl), some (.int first), some (.ref kf), a3, some (.int i), a5, a6] h).to P := by
  have li := (List.getElem?_eq_some_iff.mp ei).1
  have ai : atI (Ls.map W.str) (i : Int) = some (.str (wordOf r.way)) := by
    unfold atI ixN
    rw [if_pos (by omega), if_pos (by simpa using li)]
    simp [ei]
  have e0 : W.eqb (wayW r.way) .non = false := by rcases w with e | e <;> rw [e] <;> rfl
  unfold Bd s_s1_read_rows_4 s_s1_read_rows_1 s_s1_read_rows_2 s_s1_read_rows_3
  simp [ev, el, ai, word_way w, e0]
  exact q
theorem rangeW_cons {i n : Nat} (h : i < n) : rangeW (i : Int) (n : Int) = .int (i : Int) :: rangeW ((i + 1 : Nat) : Int) (n : Int) := by
  unfold rangeW
  rw [show ((n : Int) - (i : Int)).toNat = ((n : Int) - ((i + 1 : Nat) : Int)).toNat + 1 by omega, List.range_succ_eq_map, List.map_cons, List.map_map]
  refine congr (congrArg List.cons (by simp)) (List.map_congr_left fun a _ => ?_)
  simp only [Function.comp]
  congr 1
  omega
theorem rangeW_nil {n : Nat} : rangeW (n : Int) (n : Int) = [] := by unfold rangeW; simp
theorem lines_len : ∀ R : List Row, R ≠ [] → (linesOf R).length + 1 = 2 * R.length
  | [], h => (h rfl).elim
  | [r], _ => rfl
  | r :: s :: R, _ => by
    have := lines_len (s :: R) (by simp)
    simp only [linesOf, List.length_cons] at this ⊢
    omega
theorem drop_at {α : Type} {l : List α} {i : Nat} {x : α} {r : List α} (h : l.drop i = x :: r) : l[i]? = some x ∧ l.drop (i + 1) = r := by
  have h1 : i < l.length := by
    rcases Nat.lt_or_ge i l.length with z | z
    · exact z
    · rw [List.drop_eq_nil_of_le z] at h; cases h
  rw [List.drop_eq_getElem_cons h1] at h
  injection h with h2 h3
  exact ⟨by rw [List.getElem?_eq_getElem h1, h2], h3⟩
theorem rows_loop {kl kf : Nat} {Ls : List Str} {first : Nat} : ∀ (R : List Row) (done : List Row) (p : Option Row) (i : Nat) (h : Ev.Heap) (a4 a5 a6 : Option W), R ≠ [] → (∀ r ∈ R, GoodR r) → (∀ r ∈ R.dropLast, WayOk r) → Ls.drop i = linesOf R →
    h.get kl = some (.lst (Ls.map W.str)) → h.get kf = some (.lst (fnd done p)) → kl < h.nx → kf < h.nx → kl ≠ kf → ((i : Int) - first) % 2 = 0 → ((done ++ p.toList ++ R).map (·.num)).Nodup → (p = none → done = []) → (done ++ p.toList ++ R).length ≤ 1000 →
    (∀ h' l r a3 a4 a5 a6, done ++ p.toList ++ R = l ++ [r] → Kp [kf] h h' → h'.get kf = some (.lst (l.map rowW' ++ [rowN r])) → P.nx [some (.ref kl), some (.int first), some (.ref kf), a3, a4, a5, a6] h') →
    (forL (.one 4) Bd [] (rangeW (i : Int) (Ls.length : Int)) [some (.ref kl), some (.int first), some (.ref kf), some (wayW (p.bind (·.way))), a4, a5, a6] h).to P
  | [], _, _, _, _, _, _, _, h, _, _, _, _, _, _, _, _, _, _, _, _, _ => (h rfl).elim
  | [r], done, p, i, h, a4, a5, a6, _, g, _, ed, el, ef, lkl, lkf, ne, ev, nd, hp, l9, q => by
    obtain ⟨e1, e2⟩ := drop_at (show Ls.drop i = lineOf r :: [] from ed)
    have li : i + 1 = Ls.length := by
      have a := (List.getElem?_eq_some_iff.mp e1).1
      have b := List.drop_eq_nil_iff.mp e2
      omega
    rw [rangeW_cons (by omega), for_cons]
    refine ⟨rfl, _, rfl, ?_⟩
    simp only [List.set_cons_succ, List.set_cons_zero]
    refine line_to (g r (by simp)) e1 el ef ev (fun x m e => ?_) hp lkf (by simp at l9; omega) fun h' b5 b6 K e3 => ?_
    · rw [List.map_append, List.nodup_append] at nd
      exact nd.2.2 _ (List.mem_map_of_mem m) _ (by simp) e
    · simp only
      rw [← li, rangeW_nil, for_nil]
      exact ⟨rfl, q h' (done ++ p.toList) r _ _ _ _ rfl K (by rw [e3]; rfl)⟩
  | r :: s :: R, done, p, i, h, a4, a5, a6, _, g, gw, ed, el, ef, lkl, lkf, ne, ev, nd, hp, l9, q => by
    obtain ⟨e1, e2⟩ := drop_at (show Ls.drop i = lineOf r :: (wordOf r.way :: linesOf (s :: R)) from ed)
    obtain ⟨e3, e4⟩ := drop_at e2
    have l1 := (List.getElem?_eq_some_iff.mp e3).1
    have wr : WayOk r := gw r (by simp)
    rw [rangeW_cons (by omega), for_cons]
    refine ⟨rfl, _, rfl, ?_⟩
    simp only [List.set_cons_succ, List.set_cons_zero]
    have nd' : ((done ++ p.toList ++ [r] ++ (s :: R)).map (·.num)).Nodup := by simpa using nd
    refine line_to (g r (by simp)) e1 el ef ev (fun x m e => ?_) hp lkf (by simp at l9; omega) fun h' b5 b6 K e5 => ?_
    · rw [List.map_append, List.nodup_append] at nd
      exact nd.2.2 _ (List.mem_map_of_mem m) _ (by simp) e
    · simp only
      rw [rangeW_cons (by omega), for_cons]
      refine ⟨rfl, _, rfl, ?_⟩
      simp only [List.set_cons_succ, List.set_cons_zero]
      have hn := K.1
      have el' := K.get el lkl (by simp; exact ne)
      refine word_to wr e3 el' (by omega) ?_
      simp only
      have ih := rows_loop (s :: R) (done ++ p.toList) (some r) (i + 1 + 1) h' (some (.int ((i + 1 : Nat) : Int))) b5 b6 (by simp) (fun x m => g x (List.mem_cons_of_mem _ m)) (fun x m => gw x (by rw [List.dropLast_cons_of_ne_nil (by simp)]; exact List.mem_cons_of_mem _ m)) e4 el' e5 (by omega) (by omega) ne (by omega) (by simpa using nd') (fun e => by cases e) (by simp at l9 ⊢; omega) fun h2 l r' c3 c4 c5 c6 ee K2 e6 => q h2 l r' c3 c4 c5 c6 (by rw [← ee]; simp) (K.trans K2) e6
      exact ih

theorem rows_map {l : List Row} {r : Row} (h : r.way = none) : l.map rowW' ++ [rowN r] = (l ++ [r]).map rowW' := by
  rw [List.map_append]
  simp [rowW', rowN, h, wayW]
theorem read_rows_to {kl : Nat} {Ls pre : List Str} {R : List Row} (hR : R ≠ []) (g : ∀ r ∈ R, GoodR r) (gw : ∀ r ∈ R.dropLast, WayOk r) (gl : ∀ l r, R = l ++ [r] → r.way = none) (hL : Ls = pre ++ linesOf R) (el : h.get kl = some (.lst (Ls.map W.str))) (lkl : kl < h.nx)
    (nd : (R.map (·.num)).Nodup) (l9 : R.length ≤ 1000) (l8 : pre.length ≤ 1000) (q : ∀ h' k, Kp [] h h' → h.nx ≤ k → k < h'.nx → h'.get k = some (.lst (R.map rowW').reverse) → Q (.ref k) h') :
    (F_s1_read_rows [.ref kl, .int pre.length] h).to Q E := by
  have hz : sizeLine = 16777216 := sizeLine_eq
  have ll := lines_len R hR
  have hl : Ls.length = pre.length + (linesOf R).length := by rw [hL, List.length_append]
  unfold F_s1_read_rows s_s1_read_rows s_s1_read_rows_9 s_s1_read_rows_10 s_s1_read_rows_11 s_s1_read_rows_12
  rw [show (sSeq (s_s1_read_rows_4) (sSeq (s_s1_read_rows_5) (sSeq (s_s1_read_rows_6) (sSeq (s_s1_read_rows_7) (s_s1_read_rows_8))))) = Bd from rfl]
  have el0 : (h.new (.lst [])).get kl = _ := (Heap.new_ne (by omega)).trans el
  simp [hz, el0]
  refine ⟨pre.length, Ls.length, ⟨rfl, rfl⟩, by simp [smallR]; omega, ?_⟩
  have main := rows_loop (h := h.new (.lst [])) (P := { nx := fun ls' h' => ((sSeq (sIf (bVal (eBin wEq (eBin wMod (eBin wSub (eB bLen (aCons (eVar 0) (aNil))) (eVar 1)) (eW (.int 2))) (eW (.int 0)))) (sBad) (sNil)) (sRet (eRev (eVar 2)))) ls' h').to { nx := fun _ h' => Q .non h', rt := Q, bk := fun _ _ => False, ct := fun _ _ => False, ex := fun c fs _ h' => E c fs h' }, rt := Q, bk := fun _ _ => False, ct := fun _ _ => False, ex := fun c fs _ h' => E c fs h' })
    (kl := kl) (kf := h.nx) (Ls := Ls) (first := pre.length) R [] none pre.length none none none hR g gw (by rw [hL, List.drop_left]) el0 (by simp [fnd]) (by simp; omega) (by simp) (by omega) (by simp) (by simpa using nd) (fun _ => rfl) (by simpa using l9) fun h' l r a3 a4 a5 a6 ee K ef => ?_
  · simpa [wayW] using main
  · simp at ee
    have K0 : Kp [] h h' := ⟨by have := K.1; simp at this; omega, fun j lj _ => by rw [K.2 j (by simp; omega) (by simp; omega), Heap.new_ne (by omega)]⟩
    have el' := K0.get el lkl (by simp)
    have ev : ((Ls.length : Int) - pre.length) % 2 = 1 := by omega
    have hn := K.1
    simp at hn
    simp [el', ev, ef]
    rw [rows_map (gl l r ee), ← ee] at ef
    have e2 : (rowN r :: (l.map rowW').reverse) = (R.map rowW').reverse := by
      rw [ee, List.map_append, List.reverse_append]
      simp [rowW', rowN, gl l r ee, wayW]
    exact q _ h'.nx (K0.trans (Kp.new _ _ _)) (by omega) (by simp) (by rw [Heap.new_same, e2])
def preOf : Option Nat → List Str
  | none => []
  | some n => ["  repeats from #" ++ nS n]
def repW : Option Nat → W
  | none => .non
  | some n => .int n
theorem join_len (y : Str) : ∀ ps : List Str, (Str.join y ps).length ≤ (ps.map (·.length)).sum + ps.length * y.length
  | [] => by simp [Str.join, Str.empty, Str.length]
  | [x] => by simp [Str.join]
  | x :: z :: ps => by
    have ih := join_len y (z :: ps)
    have e : (Str.join y (x :: z :: ps)).length = x.length + y.length + (Str.join y (z :: ps)).length := by
      show (x ++ y ++ Str.join y (z :: ps)).length = _
      simp only [len_tl, tl_append, List.length_append]
    rw [e]
    simp only [List.map_cons, List.sum_cons, List.length_cons, Nat.add_mul, Nat.one_mul] at ih ⊢
    omega
theorem lines_in : ∀ {R : List Row}, (∀ r ∈ R, GoodR r) → ∀ s ∈ linesOf R, s.length ≤ 67 ∧ 10 ∉ tl s
  | [], _, s, m => by simp [linesOf] at m
  | r :: R, g, s, m => by
    have line : (lineOf r).length ≤ 67 ∧ 10 ∉ tl (lineOf r) := by
      have gr := g r (by simp)
      refine ⟨line_len gr, fun z => ?_⟩
      unfold lineOf at z
      simp only [tl_append, List.mem_append] at z
      rcases z with ((((z | z) | z) | z) | z) | z
      · exact kind_free gr.k (.inl (by decide)) z
      · revert z; decide +kernel
      · exact label_free gr.l (.inl (by decide)) z
      · revert z; decide +kernel
      · rw [tl_num] at z; exact numL_free (.inl (by decide)) z
      · revert z; decide +kernel
    cases R with
    | nil => simp only [linesOf, List.mem_singleton] at m; subst m; exact line
    | cons s' R =>
      simp only [linesOf, List.mem_cons] at m
      rcases m with rfl | rfl | m
      · exact line
      · unfold wordOf
        split
        · exact ⟨by decide +kernel, by decide +kernel⟩
        · exact ⟨by decide +kernel, by decide +kernel⟩
      · exact lines_in (fun x k => g x (List.mem_cons_of_mem _ k)) s m
theorem pre_in {o : Option Nat} (ho : ∀ n, o = some n → n < 1000000000) : ∀ s ∈ preOf o, s.length ≤ 67 ∧ 10 ∉ tl s := by
  intro s m
  cases o with
  | none => simp [preOf] at m
  | some n =>
    simp only [preOf, List.mem_singleton] at m
    subst m
    have := nS_len (ho n rfl)
    refine ⟨?_, fun z => ?_⟩
    · rw [len_tl, tl_append, List.length_append, ← len_tl (nS n)]
      have : (tl ("  repeats from #" : Str)).length = 16 := by decide +kernel
      omega
    · rw [tl_append] at z
      rcases List.mem_append.mp z with z | z
      · revert z; decide +kernel
      · rw [tl_num] at z; exact numL_free (.inl (by decide)) z
theorem starts_line {r : Row} (g : GoodR r) : Txt.startswith (lineOf r) "  repeats from #" = false := by
  obtain ⟨c, t, e⟩ : ∃ c t, tl r.kind = c :: t := by
    have := kind_len g.k
    rw [len_tl] at this
    cases e : tl r.kind with
    | nil => rw [e] at this; simp at this
    | cons c t => exact ⟨c, t, rfl⟩
  have hc : c ≠ 32 := fun z => kind_free g.k (c := 32) (.inl (by decide)) (by rw [e, z]; simp)
  obtain ⟨S', eS⟩ : ∃ S', tl ("  repeats from #" : Str) = 32 :: S' := ⟨(tl ("  repeats from #" : Str)).drop 1, by decide +kernel⟩
  cases q : Txt.startswith (lineOf r) "  repeats from #" with
  | false => rfl
  | true =>
    exfalso
    have at_ : PySem.StrLaws.At (lineOf r) "  repeats from #" (lineOf r).length 0 := by
      simp only [Txt.startswith, Bool.and_eq_true, decide_eq_true_eq] at q
      exact q
    rw [TL.at_iff (by rw [eS]; simp), eS] at at_
    have el : tl (lineOf r) = c :: (t ++ tl (": " ++ restOf r)) := by
      rw [line_eq, str_assoc, tl_append, e]; rfl
    rw [el, List.drop_zero, TL.pre_of_head _ _ hc] at at_
    cases at_
theorem starts_pre (n : Nat) : Txt.startswith ("  repeats from #" ++ nS n) "  repeats from #" = true := by
  rw [PySem.W.KAf.starts_left (Nat.le_refl _)]
  decide +kernel
theorem cut_pre (n : Nat) : cutS ("  repeats from #" ++ nS n) (some 16) none = nS n := ext_tl (by
  have e : ("  repeats from #" ++ nS n : Str).length = 16 + (nS n).length := by
    rw [len_tl, tl_append, List.length_append, ← len_tl (nS n)]
    have : (tl ("  repeats from #" : Str)).length = 16 := by decide +kernel
    omega
  show ((tl ("  repeats from #" ++ nS n)).drop (HT.sIx _ 0 (some ((16 : Nat) : Int)))).take (_ - HT.sIx _ 0 (some ((16 : Nat) : Int))) = _
  rw [HT.sIx_nat, HT.sIx_none, e, Nat.min_eq_left (by omega), tl_append, List.drop_append]
  have : (tl ("  repeats from #" : Str)).length = 16 := by decide +kernel
  rw [this, List.drop_eq_nil_of_le (by omega), List.nil_append, Nat.sub_self, List.drop_zero, List.take_of_length_le (by rw [← len_tl]; omega)])
theorem read_report_to {R : List Row} {o : Option Nat} (hR : R ≠ []) (l9 : R.length ≤ 100) (g : ∀ r ∈ R, GoodR r) (gw : ∀ r ∈ R.dropLast, WayOk r) (gl : ∀ l r, R = l ++ [r] → r.way = none) (nd : (R.map (·.num)).Nodup) (ho : ∀ n, o = some n → n < 1000000000 ∧ ∃ r ∈ R, r.num = n)
    (q : ∀ h' k, Kp [] h h' → h.nx ≤ k → k < h'.nx → h'.get k = some (.lst (R.map rowW').reverse) → Q (.tup [.ref k, repW o]) h') :
    (F_read_report [.str (Txt.join "\n" (preOf o ++ linesOf R))] h).to Q E := by
  have hz : sizeLine = 16777216 := sizeLine_eq
  have ll := lines_len R hR
  have hin : ∀ s ∈ preOf o ++ linesOf R, s.length ≤ 67 ∧ 10 ∉ tl s := fun s m => (List.mem_append.mp m).elim (pre_in (fun n e => (ho n e).1) s) (lines_in g s)
  have lpre : (preOf o).length ≤ 1 := by cases o <;> simp [preOf]
  have ne : preOf o ++ linesOf R ≠ [] := fun z => by
    have := congrArg List.length z
    simp only [List.length_append, List.length_nil] at this
    have := List.length_pos_iff.mpr hR
    omega
  have esp : Txt.split (Txt.join "\n" (preOf o ++ linesOf R)) "\n" = preOf o ++ linesOf R := TL.split_join (s := 10) (S := []) (by decide +kernel) (by decide +kernel) ne fun p m => (hin p m).2
  have lj : (Txt.join "\n" (preOf o ++ linesOf R)).length ≤ 20000 := by
    rw [TL.join_eq]
    have h1 := join_len "\n" (preOf o ++ linesOf R)
    have h2 : ∀ l : List Str, (∀ s ∈ l, s.length ≤ 67) → (l.map (·.length)).sum ≤ l.length * 67 := by
      intro l
      induction l with
      | nil => intro _; simp
      | cons a l ih =>
        intro hl
        have := ih fun s m => hl s (List.mem_cons_of_mem _ m)
        have := hl a (by simp)
        simp only [List.map_cons, List.sum_cons, List.length_cons, Nat.add_mul]
        omega
    have h3 := h2 _ fun s m => (hin s m).1
    have h4 : ("\n" : Str).length = 1 := by decide +kernel
    rw [h4] at h1
    simp only [List.length_append] at h1 h3
    omega
  have c0 : (("\n" : Str).length == 0) = false := by decide +kernel
  have cl : ("  repeats from #" : Str).length = 16 := by decide +kernel
  unfold F_read_report s_read_report s_read_report_3 s_read_report_4 s_read_report_5 s_read_report_6 s_read_report_7 s_read_report_8 s_read_report_9 s_read_report_1 s_read_report_2
  generalize hp : preOf o ++ linesOf R = parts at esp lj ne
  generalize Txt.join "\n" parts = T at esp lj
  cases parts with
  | nil => exact (ne rfl).elim
  | cons s0 rest =>
  simp [tyOf, isi_ss, wTyp, esp, c0, hz, at0]
  refine ⟨by omega, ?_⟩
  have el : (h.new (.lst (W.str s0 :: rest.map W.str))).get h.nx = some (.lst ((s0 :: rest).map W.str)) := by simp
  have K0 : Kp [] h (h.new (.lst (W.str s0 :: rest.map W.str))) := Kp.new _ _ _
  have n0 : (h.new (.lst (W.str s0 :: rest.map W.str))).nx = h.nx + 1 := rfl
  generalize h.new (.lst (W.str s0 :: rest.map W.str)) = h1 at el K0 n0 ⊢
  cases o with
  | none =>
    have hs : Txt.startswith s0 "  repeats from #" = false := by
      cases R with
      | nil => exact (hR rfl).elim
      | cons r R =>
        have : s0 = lineOf r := by
          cases R <;> (simp only [preOf, List.nil_append, linesOf] at hp; injection hp with z _; exact z.symm)
        rw [this]; exact starts_line (g r (by simp))
    simp [hs, pick]
    refine read_rows_to (pre := []) (R := R) hR g gw gl (by rw [← hp]; rfl) el (by omega) nd (by omega) (by simp) fun h2 k K2 k1 k2 ek => ?_
    exact q h2 k (K0.trans K2) (by omega) k2 ek
  | some n =>
    obtain ⟨hn, x, mx, ex⟩ := ho n rfl
    have hs0 : s0 = "  repeats from #" ++ nS n := by
      simp only [preOf, List.cons_append, List.nil_append] at hp
      injection hp with z _
      exact z.symm
    have l0 : s0.length ≤ 67 := (hin s0 (by rw [hs0]; simp [preOf])).1
    have eo : oSome (eB bLen (aCons (eW (.str "  repeats from #")) (aNil))) [some (W.str T), some (W.ref h.nx), some W.non, some (W.bl true), none, none] h1 = some (some 16, h1) := by
      refine oSome_of ?_
      show (if ("  repeats from #" : Str).length ≤ sizeLine then Ev.R.ok (.int ("  repeats from #" : Str).length) h1 else Ev.R.bad) = _
      rw [if_pos (by rw [cl]; omega), cl]
      rfl
    simp [hs0, starts_pre, pick, el, at0, eo]
    refine ⟨by rw [← hs0]; omega, ?_⟩
    rw [cut_pre]
    refine number_in_to hn fun h2 K2 => ⟨rfl, ?_⟩
    have k1 := K2.1
    refine read_rows_to (pre := preOf (some n)) (R := R) hR g gw gl hp.symm (K2.get el (by omega) (by simp)) (by omega) nd (by omega) (by simp [preOf]) fun h3 k K3 k3 k4 ek => ?_
    have k5 := K3.1
    refine .inl ⟨k, rfl, _, ek, by simp; omega, comp_pure (fun _ => true) (fun w => match w with | .tup (x :: _) => x | _ => .non) (by simp [gOk, lstAt, ek, W.eqbs_refl]) _ (fun w mw => ?_) ?_⟩
    · rw [List.mem_reverse] at mw
      obtain ⟨y, _, rfl⟩ := List.mem_map.mp mw
      refine ⟨_, rfl, ?_⟩
      simp [wipeL, rowW', at0]
    · have ey : ((R.map rowW').reverse.filter fun _ => true).map (fun w => match w with | .tup (x :: _) => x | _ => .non) = (R.reverse.map fun x => (x.num : Int)).map W.int := by
        rw [List.filter_eq_self.mpr (fun _ _ => rfl), ← List.map_reverse, List.map_map, List.map_map]
        rfl
      rw [ey]
      have K4 : Kp [] h (h3.new (.lst ((R.reverse.map fun x => (x.num : Int)).map W.int))) := ((K0.trans K2).trans K3).trans (Kp.new _ _ _)
      have e4 : (h3.new (.lst ((R.reverse.map fun x => (x.num : Int)).map W.int))).get h3.nx = _ := Heap.new_same _ _
      refine ⟨?_, q _ k K4 (by omega) (by simp; omega) ((Heap.new_ne (by omega)).trans ek)⟩
      rw [inO_ints e4, decide_eq_true]
      exact List.mem_map.mpr ⟨x, List.mem_reverse.mpr mx, by rw [ex]⟩
end
end
end EvF
set_option maxRecDepth 100000
/-! EvOwn: len(x) and x[i] of own classes, tables by subscript, f-strings, range(a, b, -1), list(..), tuple(..). -/
namespace Ev
open PySem L2 PySem.Spec PyProof.Rows
section
variable {X : Cx} {CX : CXT} {N : Nm} {Wx : WX} {pins : List (Addr × Obj)} {σ : L2.St} {H : Hp} {s : Shared} {ρ : List Addr} {h : Heap} {k n : Nat} {fa : Addr} {x q : Str} {st : Stmt} {ps : List Str} {F : List W → Heap → R} {sel : List (Bool × Nat)} {xs : List W} {vs : List V} {us : List Value} {Q : VK} {E' : XK}
/-- an own method is called below a built-in -/
theorem own_call {A : Around} (D : MdOk X.prog X.w X.K X.mg X.base N k fa x q st ps F) (bd : BdQ x q st ps n [] sel) (hr : Room k A) (hgu : A.guards = some []) (e0 : Env0 X.prog X.w X.K X.mg X.base A X.stack s H) (I : Inv X pins σ H s)
    (r : Vals vs us) (rx : VRs X.K ρ H xs vs) (hn : us.length = n) (hh : HR X.K N ρ h H) (o : Out X.K N ρ H (F (pick sel xs []) h).calm Q E') : wpAny (model X.prog X.w) A (call (.ref fa) us) (EP X pins σ Q) X.xe s := by
  obtain ⟨fd, h2, h3⟩ := D.ex
  obtain ⟨g, k1, k2⟩ := FunD.kbq h2 bd
  obtain ⟨os, z1, z2⟩ := k2 rx .nil r .nil hn rfl
  have sp : LSp X.K N F os H Q (fun _ _ _ => False) := by
    refine ⟨ρ, _, h, z1, hh, ?_⟩
    cases e : F (pick sel xs []) h with
    | ok w h1 => rw [e] at o; exact o
    | exc => rw [e] at o; exact o.elim
    | bad => rw [e] at o; exact o.elim
  refine wpAny_call (codeAny_mono (h3.run A X.stack s H ⟨us, []⟩ (g us []) os Q _ hr hgu e0 (k1 s us [] I.kIn hn rfl) z2 sp) fun r s' hq => ?_)
  cases r with
  | error e =>
    obtain ⟨_, _, _, _, _, _, _, _, _, _, _, _, z⟩ := hq
    exact z.elim
  | ok fl => cases fl with
    | ret u => exact I.after hq
    | _ => exact False.elim hq
def lenR : R → R
  | .ok (.int k) h' => if 0 ≤ k ∧ k < 2 ^ 63 then .ok (.int k) h' else .bad
  | _ => .bad
/-- len(x), x of the class c -/
def bLenC (c : Nat) (G : List W → Heap → R) : List W → Heap → R := fun ws h => match ws with
  | [.ref n] => match h.get n with
    | some (.ins d _) => if d = c then lenR (G [.ref n] h) else .bad
    | _ => .bad
  | _ => .bad
/-- x[i], x of the class c -/
def wGetC (c : Nat) (G : List W → Heap → R) : W → W → Heap → R := fun x y h => match x with
  | .ref n => match h.get n with
    | some (.ins d _) => if d = c then (G [.ref n, y] h).calm else .bad
    | _ => .bad
  | _ => .bad
theorem okb_lenC {c : Nat} (hm : Meth X.K (N.ca c) "__len__" fa) (D : MdOk X.prog X.w X.K X.mg X.base N k fa x q st ps F) (bd : BdQ x q st ps 1 [] sel) (hr : Room (k + 1) X.A) (hgu : X.A.guards = some []) : CalOk X N (.builtin "len") (bLenC c (fun xs h => F (pick sel xs []) h)) := by
  refine ⟨fun vs H Q => ∃ a dx fs ρ h n, vs = [V.ref a] ∧ H a = some (.ins (N.ca c) dx fs) ∧ ρ[n]? = some a ∧ HR X.K N ρ h H ∧ ∃ E', Out X.K N ρ H (lenR (F (pick sel [.ref n] []) h)) Q E', ?_, ?_⟩
  · intro pins s σ H vs us Q I r hq
    obtain ⟨a, dx, fs, ρ, h, n, rfl, ha, hn, hh, E', o⟩ := hq
    obtain ⟨u, rfl, ru⟩ := r.one
    cases (show u = Value.ref a from ru)
    obtain ⟨_, O1, _⟩ := ins_get I.hok ha
    obtain ⟨_, J1, _⟩ := O1.look
    obtain ⟨m, hF⟩ := I.fr
    refine PySem.W.len_K hF I.ok.mod.kin J1 hm.at_ hm.fn ?_
    have o2 : Out X.K N ρ H (F (pick sel [.ref n] []) h).calm (fun v H' => ∃ i, v = V.int i ∧ (0 ≤ i ∧ i < 2 ^ 63) ∧ Q (.int i) H') E' := by
      cases e : F (pick sel [.ref n] []) h with
      | ok w h1 =>
        rw [e] at o
        intro ρ' H' v ex r1 rv
        unfold lenR at o
        cases w with
        | int i =>
          simp only at o
          split at o
          · rename_i c1
            cases rv
            exact ⟨i, rfl, c1, o ρ' H' _ ex r1 (.int _)⟩
          · exact o.elim
        | _ => exact o.elim
      | exc => rw [e] at o; exact o.elim
      | bad => rw [e] at o; exact o.elim
    refine wpAny_mono (own_call (A := X.A.in1) (us := [.ref a]) (vs := [.ref a]) (xs := [.ref n]) D bd (Room.in1 hr) hgu I.env0.in1 I (.cons rfl .nil) (.cons (.ref hn) .nil) rfl hh o2) (fun v s' z => ?_) fun _ _ z => z
    obtain ⟨z, H', I', rz, i, rfl, c1, q1⟩ := z
    obtain ⟨t, rfl⟩ := rz
    exact ⟨c1, .int i, H', I'.tok _, ⟨_, rfl⟩, q1⟩
  · intro ρ h H ws vs Q E hr r o
    match ws, r with
    | [], _ => exact o.elim
    | [.ref n], .cons (.ref (a := a) p) .nil =>
      simp only [bLenC] at o
      split at o
      · rename_i d fs eg
        split at o
        · rename_i ec
          subst ec
          obtain ⟨dx, fs', e1, _, _⟩ := ins_of hr eg p
          exact ⟨a, dx, fs', ρ, h, n, rfl, e1, p, hr, E, o⟩
        · exact o.elim
      · exact o.elim
    | w :: w' :: ws, _ => exact (by cases w <;> exact o.elim)
    | [.non], _ => exact o.elim
    | [.bl _], _ => exact o.elim
    | [.int _], _ => exact o.elim
    | [.str _], _ => exact o.elim
    | [.tup _], _ => exact o.elim
    | [.fl _], _ => exact o.elim
    | [.gl _], _ => exact o.elim
    | [.ty _], _ => exact o.elim
theorem r_getC {c : Nat} {a b : PySem.Expr} {f g : SE} {pos : Pos} (hm : Meth X.K (N.ca c) "__getitem__" fa) (D : MdOk X.prog X.w X.K X.mg X.base N k fa x q st ps F) (bd : BdQ x q st ps 2 [] sel) (hr : Room (k + 1) X.A) (hgu : X.A.guards = some [])
    (ha : PE X a (LE X.K N Wx f)) (hb : PE X b (LE X.K N Wx g)) (hs : ∀ o i, subscripted b true o i = runValue (.builtin "lifetime.subscript" ⟨[o, i], []⟩) := by exact fun _ _ => rfl) :
    PE X (.Subscript a b pos) (LE X.K N Wx (eBin (wGetC c (fun xs h => F (pick sel xs []) h)) f g)) := by
  refine ⟨fun pins s σ H Q I h => ?_⟩
  have h2 := two_in (R := fun v u H => ∃ ρ h x y, HR X.K N ρ h H ∧ VR X.K ρ H x v ∧ VR X.K ρ H y u ∧ Out X.K N ρ H (wGetC c (fun xs h => F (pick sel xs []) h) x y h) Q (fun c d H' => Wx c d σ H')) h fun ρ h H x y v u hr rx ry o => ⟨ρ, h, x, y, hr, rx, ry, o⟩
  refine Subscript_ (binT ha hb I h2 fun v u s2 x y H2 I2 rx ry q => ?_)
  obtain ⟨ρ, h, w, z, hh, qx, qy, o⟩ := q
  cases qx with
  | @ref n a p =>
    obtain rfl : v = Value.ref a := rx
    simp only [wGetC] at o
    split at o
    · rename_i d fs eg
      split at o
      · rename_i ec
        subst ec
        obtain ⟨dx, fs', e1, _, _⟩ := ins_of hh eg p
        obtain ⟨_, O1, _⟩ := ins_get I2.hok e1
        obtain ⟨_, J1, _⟩ := O1.look
        obtain ⟨m, hF⟩ := I2.fr
        have hfn : PySem.W.fnIn X.K fa = true := by
          obtain ⟨fd, h2, h3⟩ := D.ex
          obtain ⟨oc, od, dV, kV, doc, pm, an, cdv, ct, osl, rfl, lk, hcd, _, _⟩ := h2.ex
          unfold PySem.W.fnIn
          rw [lk]
        refine PySem.W.sub_K hF I2.ok.mod.kin J1 hm.at_ hfn hm.fn ?_ (hs _ _)
        exact own_call (A := X.A.in1) (us := [.ref a, u]) (vs := [.ref a, y]) D bd (Room.in1 hr) hgu I2.env0.in1 I2 (.cons rfl (.cons ry .nil)) (.cons (.ref p) (.cons qy .nil)) rfl hh o
      · exact o.elim
    · exact o.elim
  | _ => exact o.elim
end
section
variable {X : Cx} {N : Nm} {Wx : WX} {pos p p1 : Pos} {a b c e : PySem.Expr} {f g : SE} {gs : SEs} {x : Str} {d : Addr} {tab : List (Str × Str)} {tg : PySem.Expr}
/-- T[e], T a written dict of the module -/
theorem r_tabix (D : TabOk X.K X.w d tab) (hm : X.mg x = some (.ref d)) (he : PE X e (LE X.K N Wx f)) (hg : Gl X x := by rfl) (hdb : (x == ("__debug__" : Str)) = false := by decide) (hs : PlainIx e := by exact fun _ _ => rfl) :
    PE X (.Subscript (.Name x p1) e pos) (LE X.K N Wx (eTabIx tab f)) := by
  refine ⟨fun pins s σ H Q I ⟨ρ, ls, hp, l, hr, o⟩ => ?_⟩
  obtain ⟨es0, n0, kd0, em0⟩ := D.ex
  refine Subscript_ (ld_glob I hg hm ?_ hdb)
  have h2 : LE X.K N Wx f σ H fun v H1 => ∃ ρ h x, HR X.K N ρ h H1 ∧ VR X.K ρ H1 x v ∧ Out X.K N ρ H1 ((fun (x : W) (h : Heap) => match x with
    | .str z => match tab.find? (fun p => p.1 == z) with
      | some p => R.ok (.str p.2) h
      | none => .bad
    | _ => .bad) x h) Q (fun c d H' => Wx c d σ H') := one_in (f := f) ⟨ρ, ls, hp, l, hr, o⟩ fun ρ ls h H x v l hr rx o => ⟨ρ, h, x, hr, rx, o⟩
  refine thn (he.run pins s σ H _ I h2) fun u s1 ⟨v, H1, I1, rv, ρ, h, x, hr, rx, o⟩ => ?_
  cases rx with
  | str z =>
    obtain ⟨t, rfl⟩ := rv
    simp only at o
    split at o
    · rename_i p ep
      obtain ⟨es, n, kd, r, er, cs⟩ := D.found z
      have et : tabGet tab z = .str p.2 := by unfold tabGet; rw [ep]
      rcases cs with ⟨c1, _⟩ | ⟨v, t2, c1, rfl⟩
      · rw [et] at c1; cases c1
      · rw [et] at c1
        cases c1
        refine tail_any (kd_type kd I1) PySem.F.slot_dict_getitem.lookup ?_ (hs _ _)
        exact wpAny_getItem_of (PySem.strKind_is X.prog X.w z t) (PySem.W.mapOf_K (prog := X.prog) I1.kIn kd.at_ kd.lit) er ⟨.str p.2, H1, I1.tok _, ⟨_, rfl⟩, o.val hr (.str _)⟩
    · exact o.elim
  | _ => exact o.elim
/-! f-strings -/
def wFmt : W → Heap → R
  | .str y, h => if y.length ≤ sizeLine then .ok (.str y) h else .bad
  | .int i, h => if i.natAbs.log2 < 1920 then .ok (.str (toString i)) h else .bad
  | _, _ => .bad
def eJs : List SE → Str → SE
  | [], acc => fun ls h => .ok (.str acc) h
  | f :: fs, acc => fun ls h => (f ls h).bind fun x h1 => match x with
    | .str y => if (acc ++ y).length ≤ sizeLine then eJs fs (acc ++ y) ls h1 else .bad
    | _ => .bad
theorem r_fmt (he : PE X e (LE X.K N Wx f)) : PE X (.FormattedValue e (-1) none pos) (LE X.K N Wx (eUn wFmt f)) :=
  PE.imp (pe_fmt he) fun σ H Q h => one_in h fun ρ ls h H x v l hr rx o => by
    cases rx with
    | str y =>
      simp only [wFmt] at o
      split at o
      · exact .inl ⟨y, rfl, by assumption, o.val hr (.str _)⟩
      · exact o.elim
    | int i =>
      simp only [wFmt] at o
      split at o
      · exact .inr ⟨i, rfl, by assumption, o.val hr (.str _)⟩
      · exact o.elim
    | _ => exact o.elim
/-- the parts' readings -/
inductive PJs (X : Cx) (N : Nm) (Wx : WX) : List PySem.Expr → List SE → Prop where
  | nil : PJs X N Wx [] []
  | cons {e : PySem.Expr} {f : SE} {es : List PySem.Expr} {fs : List SE} (h : PE X e (LE X.K N Wx f)) (r : PJs X N Wx es fs) : PJs X N Wx (e :: es) (f :: fs)
theorem PJs.pj {es : List PySem.Expr} {fs : List SE} (h : PJs X N Wx es fs) : PJ X es (fs.map fun f => LE X.K N Wx f) := by
  induction h with
  | nil => exact .nil
  | cons h r ih => exact .cons h ih
theorem js_in {K : PySem.W.Frag} : ∀ {fs : List SE} {acc : Str} {ρ : List Addr} {ls : Ls} {h : Heap} {H : Hp} {σ : L2.St} {Q : VK}, LR K ρ H ls σ → HR K N ρ h H → Out K N ρ H (eJs fs acc ls h) Q (fun c d H' => Wx c d σ H') → tJs (fs.map fun f => LE K N Wx f) acc σ H fun out H1 => Q (.str out) H1
  | [], acc, ρ, ls, h, H, σ, Q, l, hr, o => o.val hr (.str _)
  | f :: fs, acc, ρ, ls, h, H, σ, Q, l, hr, o => by
    refine ⟨ρ, ls, h, l, hr, (Out.bind o).mono (fun v H1 z => ?_) fun _ _ _ z => z⟩
    obtain ⟨ρ1, x, h1, e1, hr1, rx, o1⟩ := z
    cases rx with
    | str y =>
      simp only at o1
      split at o1
      · exact ⟨y, rfl, by assumption, js_in (l.ex e1) hr1 o1⟩
      · exact o1.elim
    | _ => exact o1.elim
theorem r_fstr {v1 v2 : PySem.Expr} {rest : List PySem.Expr} {fs : List SE} (h : PJs X N Wx (v1 :: v2 :: rest) fs) : PE X (.JoinedStr (v1 :: v2 :: rest) pos) (LE X.K N Wx (eJs fs Str.empty)) :=
  PE.imp (pe_joined h.pj) fun σ H Q ⟨ρ, ls, hp, l, hr, o⟩ => js_in l hr o
/-! range(a, b, -1) -/
def rangeD (hi lo : Int) : List W := (List.range (hi - lo).toNat).map fun i => W.int (hi + (i : Nat) * -1)
def iRangeD (gs : SEs) : SI := fun ls h => match gs ls h with
  | .ok [.int i, .int j, .int (-1)] h1 => if (smallR i && smallR j) = true then .ok (rangeD i j) [] h1 else .bad
  | .ok _ _ => .bad
  | .exc c fs h1 => .exc c fs h1
  | .bad => .bad
theorem i_rangeD (hg : Gl X "range") (hm : X.mg "range" = none) (ha : PA X [a, b, c] (LA X.K N Wx gs)) (hs : starEach [a, b, c] X.env = (false, eval a X.env) :: starEach [b, c] X.env := by rfl) (hpl : (backTo pos (starEach [b, c] X.env)).any (·.1) = false := by rfl) :
    PI X tg (.Call (.Name "range" p) [a, b, c] [] pos) (LI X.K N Wx (iRangeD gs)) := by
  refine PI.imp (pi_range3 hg hm ha hs hpl) fun σ H R h => ?_
  obtain ⟨ρ, ls, hp, l, hr, o⟩ := h
  refine ⟨ρ, ls, hp, l, hr, ?_⟩
  unfold iRangeD at o
  cases e : gs ls hp with
  | ok ws h1 =>
    rw [e] at o
    intro ρ' H' vs ex r x
    split at o
    · rename_i xs g h2 e2
      split at e2
      · rename_i i j h3 e3
        split at e2
        · rename_i z
          cases e3
          cases e2
          simp only [smallR, Bool.and_eq_true, decide_eq_true_eq] at z
          cases x with
          | cons q1 x => cases x with
            | cons q2 x => cases x with
              | cons q3 x =>
                cases x; cases q1; cases q2; cases q3
                exact ⟨i, j, -1, _, rfl, RgC.neg z.1.1 z.1.2 z.2.1 z.2.2, o ρ' H' (Itc i (-1) (i - j).toNat) ex r src_rangeC⟩
        · cases e2
      · cases e2
      · cases e2
      · cases e2
    · rename_i e2; split at e2 <;> first | (split at e2 <;> cases e2; done) | (cases e2; rename_i e3; cases e3; done) | (cases e2; done)
    · exact o.elim
  | exc c fs h1 => rw [e] at o; exact o
  | bad => rw [e] at o; exact o.elim
/-! list(..), tuple(..) -/
def bTuple : List W → Heap → R := fun ws h => match ws with
  | [w] => match itemsW h w with
    | some xs => .ok (.tup xs) h
    | none => .bad
  | _ => .bad
def bList : List W → Heap → R := fun ws h => match ws with
  | [w] => match itemsW h w with
    | some xs => .ok (.ref h.nx) (h.new (.lst xs))
    | none => .bad
  | _ => .bad
theorem okb_tuple : CalOk X N (.type "tuple") bTuple := by
  refine ⟨_, call_tuple_of, fun ρ h H ws vs Q E hr r o => ?_⟩
  match ws, r with
  | [], _ => exact o.elim
  | [w], .cons q .nil =>
    simp only [bTuple] at o
    split at o
    · rename_i xs e
      obtain ⟨a, ys, rfl, h1, h2⟩ := itemsW_in hr e q
      refine ⟨a, ys, rfl, ?_⟩
      rcases h1 with h1 | h1
      · exact .inr ⟨h1, o.val hr (.tup h1 h2)⟩
      · exact .inl ⟨h1, Out.newT hr h2 o⟩
    · exact o.elim
  | _ :: _ :: _, _ => exact o.elim
theorem okb_list : CalOk X N (.type "list") bList := by
  refine ⟨_, call_list_of, fun ρ h H ws vs Q E hr r o => ?_⟩
  match ws, r with
  | [], _ => exact o.elim
  | [w], .cons q .nil =>
    simp only [bList] at o
    split at o
    · rename_i xs e
      obtain ⟨a, ys, rfl, h1, h2⟩ := itemsW_in hr e q
      exact ⟨a, ys, rfl, h1.symm, Out.newL hr h2 o⟩
    · exact o.elim
  | _ :: _ :: _, _ => exact o.elim
/-- list(range(e)) -/
def eListRg (f : SE) : SE := eUn (fun x h => match x with
  | .int n => if 0 ≤ n ∧ n ≤ 2 ^ 24 then .ok (.ref h.nx) (h.new (.lst (rangeW 0 n))) else .bad
  | _ => .bad) f
theorem rg_vr {K : PySem.W.Frag} {ρ : List Addr} {H : Hp} (i j : Int) : VRs K ρ H (rangeW i j) (rgV i j) := by
  unfold rangeW rgV
  generalize List.range (j - i).toNat = l
  induction l with
  | nil => exact .nil
  | cons m l ih => exact .cons (.int _) ih
theorem r_listRg {pl p0 : Pos} (hc : X.calm = true) (hgl : Gl X "list") (hml : X.mg "list" = none) (hg : Gl X "range") (hm : X.mg "range" = none) (he : PE X e (LE X.K N Wx f)) (hs : starEach [e] X.env = (false, eval e X.env) :: starEach [] X.env := by rfl)
    (na : starEach [PySem.Expr.Call (.Name "range" p) [e] [] pl] X.env = (false, eval (PySem.Expr.Call (.Name "range" p) [e] [] pl) X.env) :: starEach [] X.env := by rfl) : PE X (.Call (.Name "list" p0) [.Call (.Name "range" p) [e] [] pl] [] pos) (LE X.K N Wx (eListRg f)) :=
  PE.imp (pe_listRg hc hgl hml (prg_1 hg hm he hs) na) fun σ H Q h => one_in h fun ρ ls h H x v l hr rx o => by
    cases rx with
    | int n =>
      simp only at o
      split at o
      · rename_i z
        exact ⟨n, rfl, RgOk.of_le (by omega) (by omega) (by omega) (by omega), Out.newL hr (rg_vr _ _) o⟩
      · exact o.elim
    | _ => exact o.elim
end
/-! ### what must hold -/
section
variable {ls : Ls} {h : Heap} {Q : W → Heap → Prop} {E : Nat → List (Nat × W) → Heap → Prop} {tab : List (Str × Str)} {f : SE}
theorem to_lenR {r : R} : (lenR r).to Q E ↔ r.to (fun x h1 => ∃ k, x = .int k ∧ (0 ≤ k ∧ k < 2 ^ 63) ∧ Q (.int k) h1) (fun _ _ _ => False) := by
  cases r with
  | ok x h1 =>
    cases x with
    | int k => show R.to (if 0 ≤ k ∧ k < 2 ^ 63 then .ok (.int k) h1 else .bad) Q E ↔ _; rw [to_ifb]; simp
    | _ => simp [lenR]
  | exc => rfl
  | bad => rfl
theorem to_lenC {c n d : Nat} {fs : List (Nat × W)} {G : List W → Heap → R} (e : h.get n = some (.ins d fs)) (ed : d = c) : (bLenC c G [.ref n] h).to Q E ↔ (G [.ref n] h).to (fun x h1 => ∃ k, x = .int k ∧ (0 ≤ k ∧ k < 2 ^ 63) ∧ Q (.int k) h1) (fun _ _ _ => False) := by
  have : bLenC c G [.ref n] h = lenR (G [.ref n] h) := by unfold bLenC; simp only [e, ed, if_true]
  rw [this, to_lenR]
theorem to_calm' {r : R} : r.calm.to Q E ↔ r.to Q (fun _ _ _ => False) := by cases r <;> rfl
theorem to_getC {c n d : Nat} {y : W} {fs : List (Nat × W)} {G : List W → Heap → R} (e : h.get n = some (.ins d fs)) (ed : d = c) : (wGetC c G (.ref n) y h).to Q E ↔ (G [.ref n, y] h).to Q (fun _ _ _ => False) := by
  have : wGetC c G (.ref n) y h = (G [.ref n, y] h).calm := by unfold wGetC; simp only [e, ed, if_true]
  rw [this, to_calm']
@[simp] theorem x_tabix : (eTabIx tab f ls h).to Q E ↔ (f ls h).to (fun x h1 => ∃ z y, x = .str z ∧ (tab.find? fun p => p.1 == z).map (·.2) = some y ∧ Q (.str y) h1) E := by
  unfold eTabIx
  rw [to_bind]
  cases f ls h with
  | ok x h1 =>
    cases x with
    | str z =>
      cases e : tab.find? (fun p => p.1 == z) with
      | none => simp [e]
      | some p =>
        simp only [to_ok, e, Option.map_some, W.str.injEq, Option.some.injEq]
        exact ⟨fun q => ⟨z, p.2, rfl, by rw [e]; rfl, q⟩, fun ⟨z', y, e1, e2, q⟩ => by subst e1; rw [e] at e2; cases e2; exact q⟩
    | _ => simp
  | exc => rfl
  | bad => rfl
@[simp] theorem o_tuple {w : W} : (bTuple [w] h).to Q E ↔ ∃ xs, itemsW h w = some xs ∧ Q (.tup xs) h := by
  show R.to (match itemsW h w with
    | some xs => .ok (.tup xs) h
    | none => .bad) Q E ↔ _
  cases itemsW h w <;> simp
@[simp] theorem o_list {w : W} : (bList [w] h).to Q E ↔ ∃ xs, itemsW h w = some xs ∧ Q (.ref h.nx) (h.new (.lst xs)) := by
  show R.to (match itemsW h w with
    | some xs => .ok (.ref h.nx) (h.new (.lst xs))
    | none => .bad) Q E ↔ _
  cases itemsW h w <;> simp
@[simp] theorem x_listRg : (eListRg f ls h).to Q E ↔ (f ls h).to (fun x h1 => ∃ n, x = .int n ∧ (0 ≤ n ∧ n ≤ 2 ^ 24) ∧ Q (.ref h1.nx) (h1.new (.lst (rangeW 0 n)))) E := by
  unfold eListRg eUn
  rw [to_bind]
  cases f ls h with
  | ok x h1 =>
    cases x with
    | int n => simp only [to_ok]; rw [to_ifb]; simp
    | _ => simp
  | exc => rfl
  | bad => rfl
@[simp] theorem o_fmtS {y : Str} : (wFmt (.str y) h).to Q E ↔ y.length ≤ sizeLine ∧ Q (.str y) h := by unfold wFmt; rw [to_ifb]; rfl
@[simp] theorem o_fmtI {i : Int} : (wFmt (.int i) h).to Q E ↔ i.natAbs.log2 < 1920 ∧ Q (.str (toString i)) h := by unfold wFmt; rw [to_ifb]; rfl
@[simp] theorem x_js0 {acc : Str} : (eJs [] acc ls h).to Q E ↔ Q (.str acc) h := Iff.rfl
@[simp] theorem x_js {fs : List SE} {acc : Str} : (eJs (f :: fs) acc ls h).to Q E ↔ (f ls h).to (fun x h1 => ∃ y, x = .str y ∧ (acc ++ y).length ≤ sizeLine ∧ (eJs fs (acc ++ y) ls h1).to Q E) E := by
  conv => lhs; unfold eJs
  rw [to_bind]
  cases f ls h with
  | ok x h1 =>
    cases x with
    | str y => simp only [to_ok]; rw [to_ifb]; simp
    | _ => simp
  | exc => rfl
  | bad => rfl
@[simp] theorem z_rangeD {gs : SEs} {Q : List W → List (Nat × List W) → Heap → Prop} : (iRangeD gs ls h).to Q E ↔ (gs ls h).to (fun xs h1 => ∃ i j, xs = [.int i, .int j, .int (-1)] ∧ (smallR i && smallR j) = true ∧ Q (rangeD i j) [] h1) E := by
  unfold iRangeD
  cases gs ls h with
  | ok xs h1 =>
    simp only [tos_ok]
    constructor
    · intro q
      split at q
      · rename_i i j h2 e
        cases e
        by_cases c : (smallR i && smallR j) = true
        · rw [if_pos c] at q; exact ⟨i, j, rfl, c, q⟩
        · rw [if_neg c] at q; exact q.elim
      · exact q.elim
      · rename_i e; cases e
      · exact q.elim
    · rintro ⟨i, j, rfl, c, q⟩
      simp only [c, if_true]
      exact q
  | exc => rfl
  | bad => rfl
end
end Ev
set_option maxRecDepth 100000
namespace EvF
open PySem L2 Ev
def tab_STEP_LINES : List (Str × Str) := [("cause", "  is the cause of"), ("context", "  was handled at the raise of")]
def s_next_link : SS := sSeq (sIf (bVal (eBin wIsnt (eAttr (atP 0 F_Fault_cause) 10 (eVar 0)) (eW .non))) (sRet (eTup (aCons (eW (.str "cause")) (aCons (eAttr (atP 0 F_Fault_cause) 10 (eVar 0)) (aNil))))) (sNil)) (sSeq (sIf (bAnd (bVal (eBin wIsnt (eAttr (atP 0 F_Fault_context) 9 (eVar 0)) (eW .non))) (bNot (bTru (eAttr (atP 0 F_Fault_hides) 11 (eVar 0))))) (sRet (eTup (aCons (eW (.str "context")) (aCons (eAttr (atP 0 F_Fault_context) 9 (eVar 0)) (aNil))))) (sNil)) (sRet (eW .non)))
@[irreducible] def F_next_link : List W → Ev.Heap → R := fnOf 1 1 s_next_link
def s_chain_parts_1 : SS := sAsg (eVar 3) (gTp [gNm 4, gNm 5])
def s_chain_parts_2 : SS := sIf (bVal (eBin (wInI idF) (eVar 5) (eVar 1))) (sRet (eTup (aCons (eB bTuple (aCons (eVar 1) (aNil))) (aCons (eB bTuple (aCons (eVar 2) (aNil))) (aCons (eVar 5) (aNil)))))) (sNil)
def s_chain_parts_3 : SS := sExpr (eBm "list" mAppend (eVar 1) (aCons (eVar 5) (aNil)))
def s_chain_parts_4 : SS := sExpr (eBm "list" mAppend (eVar 2) (aCons (eVar 4) (aNil)))
def s_chain_parts_5 : SS := sAsg (eCall (fun xs ys h => F_next_link (pick [(false, 0)] xs ys) h) 1 0 (aCons (eVar 5) (aNil)) (aNil)) (gNm 3)
def s_chain_parts_6 : SS := sExpr (eCall (fun xs ys h => F_need_fault (pick [(false, 0)] xs ys) h) 1 0 (aCons (eVar 0) (aNil)) (aNil))
def s_chain_parts_7 : SS := sPar3 1 2 3 (aCons (eLst (aCons (eVar 0) (aNil))) (aCons (eLst (aNil)) (aCons (eCall (fun xs ys h => F_next_link (pick [(false, 0)] xs ys) h) 1 0 (aCons (eVar 0) (aNil)) (aNil)) (aNil))))
def s_chain_parts_8 : SS := whileL (bVal (eBin wIsnt (eVar 3) (eW .non))) (sSeq (s_chain_parts_1) (sSeq (s_chain_parts_2) (sSeq (s_chain_parts_3) (sSeq (s_chain_parts_4) (s_chain_parts_5))))) 100000
def s_chain_parts_9 : SS := sRet (eTup (aCons (eB bTuple (aCons (eVar 1) (aNil))) (aCons (eB bTuple (aCons (eVar 2) (aNil))) (aCons (eW .non) (aNil)))))
def s_chain_parts : SS := sSeq (s_chain_parts_6) (sSeq (s_chain_parts_7) (sSeq (s_chain_parts_8) (s_chain_parts_9)))
@[irreducible] def F_chain_parts : List W → Ev.Heap → R := fnOf 1 6 s_chain_parts
def s_Chain___init__ : SS := sAsg (eCall (fun xs ys h => F_chain_parts (pick [(false, 0)] xs ys) h) 1 0 (aCons (eVar 1) (aNil)) (aNil)) (gTp [gAttr (okF [2]) 21 (eVar 0), gAttr (okF [2]) 22 (eVar 0), gAttr (okF [2]) 23 (eVar 0)])
@[irreducible] def F_Chain___init__ : List W → Ev.Heap → R := fnOf 2 2 s_Chain___init__
def s_Chain_ways : SS := sRet (eAttr (atF [2]) 22 (eVar 0))
@[irreducible] def F_Chain_ways : List W → Ev.Heap → R := fnOf 1 1 s_Chain_ways
def s_Chain_repeat : SS := sRet (eAttr (atF [2]) 23 (eVar 0))
@[irreducible] def F_Chain_repeat : List W → Ev.Heap → R := fnOf 1 1 s_Chain_repeat
def s_Chain___len__ : SS := sRet (eB bLen (aCons (eAttr (atF [2]) 21 (eVar 0)) (aNil)))
@[irreducible] def F_Chain___len__ : List W → Ev.Heap → R := fnOf 1 1 s_Chain___len__
def s_Chain___getitem__ : SS := sSeq (sIf (bOr (bNot (bTru (eB (bIsi clNo) (aCons (eVar 1) (aCons (eW (.ty "int")) (aNil)))))) (bOr (bTru (eB (bIsi clNo) (aCons (eVar 1) (aCons (eW (.ty "bool")) (aNil))))) (bNot (bVal (eChain wLe2 wLt2 (eW (.int 0)) (eVar 1) (eB bLen (aCons (eAttr (atF [2]) 21 (eVar 0)) (aNil)))))))) (sBad) (sNil)) (sRet (eBin wIx (eAttr (atF [2]) 21 (eVar 0)) (eVar 1)))
@[irreducible] def F_Chain___getitem__ : List W → Ev.Heap → R := fnOf 2 2 s_Chain___getitem__
def s_report_1 : SS := sAsg (eBin (wGetC 2 (fun xs h => F_Chain___getitem__ (pick [(false, 0), (false, 1)] xs []) h)) (eVar 1) (eVar 3)) (gNm 4)
def s_report_2 : SS := sExpr (eBm "list" mAppend (eVar 2) (aCons (eJs [eUn wFmt (eAttr (atP 0 F_Fault_kind) 6 (eVar 4)), eW (.str ": "), eUn wFmt (eAttr (atP 0 F_Fault_label) 7 (eVar 4)), eW (.str " (#"), eUn wFmt (eAttr (atP 0 F_Fault_number) 8 (eVar 4)), eW (.str ")")] Str.empty) (aNil)))
def s_report_3 : SS := sIf (bVal (eBin wGt2 (eVar 3) (eW (.int 0)))) (sExpr (eBm "list" mAppend (eVar 2) (aCons (eTabIx tab_STEP_LINES (eBin wIx (eAttr (atP 2 F_Chain_ways) 25 (eVar 1)) (eBin wSub (eVar 3) (eW (.int 1))))) (aNil)))) (sNil)
def s_report_4 : SS := sExpr (eCall (fun xs ys h => F_need_fault (pick [(false, 0)] xs ys) h) 1 0 (aCons (eVar 0) (aNil)) (aNil))
def s_report_5 : SS := sAsg (eCall (mkObj 2 F_Chain___init__ (pick [(false, 0), (false, 1)])) 1 0 (aCons (eVar 0) (aNil)) (aNil)) (gNm 1)
def s_report_6 : SS := sAsg (eIf (bVal (eBin wIs (eAttr (atP 2 F_Chain_repeat) 26 (eVar 1)) (eW .non))) (eLst (aNil)) (eLst (aCons (eJs [eUn wFmt (eW (.str "  repeats from #")), eUn wFmt (eAttr (atP 0 F_Fault_number) 8 (eAttr (atP 2 F_Chain_repeat) 26 (eVar 1)))] Str.empty) (aNil)))) (gNm 2)
def s_report_7 : SS := sFor (.one 3) (iRangeD (aCons (eBin wSub (eB (bLenC 2 (fun xs h => F_Chain___len__ (pick [(false, 0)] xs []) h)) (aCons (eVar 1) (aNil))) (eW (.int 1))) (aCons (eUn wNeg (eW (.int 1))) (aCons (eUn wNeg (eW (.int 1))) (aNil))))) (sSeq (s_report_1) (sSeq (s_report_2) (s_report_3)))
def s_report_8 : SS := sRet (eBm "str" mJoin (eW (.str "\n")) (aCons (eVar 2) (aNil)))
def s_report : SS := sSeq (s_report_4) (sSeq (s_report_5) (sSeq (s_report_6) (sSeq (s_report_7) (s_report_8))))
@[irreducible] def F_report : List W → Ev.Heap → R := fnOf 1 5 s_report
end EvF
set_option maxRecDepth 100000
/-! EvChn: chains of faults. -/
namespace EvF
open PySem L2 Ev
def nextL (f : Flt) : Option (Str × Nat) := match f.cau with
  | some c => some ("cause", c)
  | none => match f.ctx with
    | some c => if f.hid = true then none else some ("context", c)
    | none => none
def linkW : Option (Str × Nat) → W
  | none => .non
  | some (w, m) => .tup [.str w, .ref m]
structure Ch where
  L : List Nat
  W : List Str
  R : Option Nat
def chn (G : Nat → Flt) : Nat → List Nat → List Str → Nat → Ch
  | 0, l, w, _ => ⟨l, w, none⟩
  | k + 1, l, w, x => match nextL (G x) with
    | none => ⟨l, w, none⟩
    | some (a, y) => if y ∈ l then ⟨l, w, some y⟩ else chn G k (l ++ [y]) (w ++ [a]) y
def chainOf (G : Nat → Flt) (n : Nat) : Ch := chn G 2000 [n] [] n
section
variable {h : Ev.Heap} {n : Nat} {f : Flt} {fs : List Nat} {G : Nat → Flt} {Q : W → Ev.Heap → Prop} {E : Nat → List (Nat × W) → Ev.Heap → Prop} {P : Po} {ls : Ls}
theorem next_link_to (a : FltAt h n f) (q : Q (linkW (nextL f)) h) : (F_next_link [.ref n] h).to Q E := by
  have hz : sizeLine = 16777216 := sizeLine_eq
  have a' : h.get n = _ := a
  unfold F_next_link s_next_link
  simp [a', W.eqb]
  refine cause_to a ?_
  cases ec : f.cau with
  | some c =>
    simp [oW, a', W.eqb]
    refine cause_to a ?_
    simpa [nextL, ec, linkW, oW, hz] using q
  | none =>
    simp [oW, a', W.eqb]
    refine context_to a ?_
    cases ex : f.ctx with
    | none =>
      simp [oW, W.eqb]
      simpa [nextL, ec, ex, linkW] using q
    | some c =>
      simp [oW, a', W.eqb]
      refine hides_to a ?_
      cases eh : f.hid with
      | true =>
        simp
        simpa [nextL, ec, ex, eh, linkW] using q
      | false =>
        simp [a']
        refine context_to a ?_
        simpa [nextL, ec, ex, eh, linkW, oW, hz] using q
theorem nextL_mem (p : Pool h fs G) (m : n ∈ fs) {a : Str} {y : Nat} (e : nextL (G n) = some (a, y)) : y ∈ fs ∧ (a = ("cause" : Str) ∨ a = ("context" : Str)) := by
  unfold nextL at e
  cases ec : (G n).cau with
  | some c => rw [ec] at e; cases e; exact ⟨p.cau n m _ ec, .inl rfl⟩
  | none =>
    rw [ec] at e
    cases ex : (G n).ctx with
    | none => rw [ex] at e; cases e
    | some c =>
      rw [ex] at e
      simp only at e
      split at e
      · cases e
      · cases e; exact ⟨p.ctx n m _ ex, .inr rfl⟩
/-- what a chain has -/
structure ChOk (fs : List Nat) (n : Nat) (c : Ch) : Prop where
  hd : ∃ r, c.L = n :: r
  nd : c.L.Nodup
  sub : ∀ x ∈ c.L, x ∈ fs
  len : c.W.length + 1 = c.L.length
  way : ∀ a ∈ c.W, a = ("cause" : Str) ∨ a = ("context" : Str)
  rep : ∀ x, c.R = some x → x ∈ c.L
theorem ChOk.step {l : List Nat} {w : List Str} {a : Str} {y : Nat} (c : ChOk fs n ⟨l, w, none⟩) (my : y ∈ fs) (z : y ∉ l) (wa : a = ("cause" : Str) ∨ a = ("context" : Str)) : ChOk fs n ⟨l ++ [y], w ++ [a], none⟩ := by
  obtain ⟨r, hr⟩ := c.hd
  have hr' : l = n :: r := hr
  refine ⟨⟨r ++ [y], by simp [hr']⟩, ?_, fun x mx => ?_, ?_, fun b mb => ?_, fun x e => by cases e⟩
  · exact List.nodup_append.mpr ⟨c.nd, by simp, fun a ha b hb => by simp at hb; subst hb; rintro rfl; exact z ha⟩
  · rcases List.mem_append.mp mx with mx | mx
    · exact c.sub x mx
    · obtain rfl := List.mem_singleton.mp mx; exact my
  · have := c.len; simp at this ⊢; omega
  · rcases List.mem_append.mp mb with mb | mb
    · exact c.way b mb
    · obtain rfl := List.mem_singleton.mp mb; exact wa
theorem chn_ok (p : Pool h fs G) : ∀ (k : Nat) {l : List Nat} {w : List Str} {x : Nat}, ChOk fs n ⟨l, w, none⟩ → x ∈ fs → ChOk fs n (chn G k l w x)
  | 0, l, w, x, c, m => c
  | k + 1, l, w, x, c, m => by
    unfold chn
    cases e : nextL (G x) with
    | none => exact c
    | some ay =>
      obtain ⟨a, y⟩ := ay
      obtain ⟨my, wa⟩ := nextL_mem p m e
      simp only
      split
      · rename_i z
        exact { c with rep := fun x e => by cases e; exact z }
      · rename_i z
        exact chn_ok p k (c.step my z wa) my
theorem chainOf_ok (p : Pool h fs G) (m : n ∈ fs) : ChOk fs n (chainOf G n) := chn_ok p 2000 ⟨⟨[], rfl⟩, by simp, by simpa using m, rfl, by simp, by simp⟩ m
structure JC (h : Ev.Heap) (fs : List Nat) (G : Nat → Flt) (n kf kw : Nat) (m : Nat) (ls : Ls) (h' : Ev.Heap) : Prop where
  of : ∃ (l : List Nat) (w : List Str) (x k : Nat) (a4 a5 : Option W), m = fs.length - l.length ∧ fs.length < l.length + k ∧ ls = [some (.ref n), some (.ref kf), some (.ref kw), some (linkW (nextL (G x))), a4, a5] ∧ Kp [kf, kw] h h' ∧ h'.get kf = some (.lst (l.map W.ref)) ∧ h'.get kw = some (.lst (w.map W.str)) ∧
    ChOk fs n ⟨l, w, none⟩ ∧ x ∈ fs ∧ chn G k l w x = chainOf G n
theorem chain_parts_to (p : Pool h fs G) (hs : fs.length ≤ 1000) (m : n ∈ fs) (q : ∀ h', Kp [] h h' → Q (.tup [.tup ((chainOf G n).L.map W.ref), .tup ((chainOf G n).W.map W.str), oW (chainOf G n).R]) h') : (F_chain_parts [.ref n] h).to Q E := by
  have hz : sizeLine = 16777216 := sizeLine_eq
  have nf : ∀ {x : Nat}, x ∈ fs → x < h.nx := fun {x} mx => (p.at_ x mx).2
  have a := (p.at_ n m).1
  unfold F_chain_parts s_chain_parts s_chain_parts_6 s_chain_parts_7
  generalize hB : s_chain_parts_8 = B
  simp [pick]
  refine need_to a ?_
  simp [hz]
  have K0 : Kp [] h ((h.new (.lst [.ref n])).new (.lst [])) := (Kp.new _ _ _).trans (Kp.new _ _ _)
  have g1 : ((h.new (.lst [.ref n])).new (.lst [])).get h.nx = some (.lst (([n] : List Nat).map W.ref)) := by rw [Heap.new_ne (by simp)]; exact Heap.new_same _ _
  have g2 : ((h.new (.lst [.ref n])).new (.lst [])).get (h.nx + 1) = some (.lst (([] : List Str).map W.str)) := Heap.new_same _ _
  have n1 : ((h.new (.lst [.ref n])).new (.lst [])).nx = h.nx + 2 := rfl
  generalize (h.new (.lst [.ref n])).new (.lst []) = h1 at K0 g1 g2 n1 ⊢
  have p1 := p.kp K0 (by simp)
  refine next_link_to ((p1.at_ n m).1) ?_
  subst hB
  unfold s_chain_parts_8 s_chain_parts_9
  generalize hB : sSeq s_chain_parts_1 (sSeq s_chain_parts_2 (sSeq s_chain_parts_3 (sSeq s_chain_parts_4 s_chain_parts_5))) = B
  simp
  refine while_inv (JC h1 fs G n h.nx (h.nx + 1)) (fun w ls h' J => ?_) 100000 (fs.length - 1) _ _ (by omega) ⟨⟨[n], [], n, 2000, none, none, by simp, by simp; omega, rfl, Kp.refl _ _, g1, g2, ⟨⟨[], rfl⟩, by simp, by simpa using m, rfl, by simp, by simp⟩, m, rfl⟩⟩
  obtain ⟨l, w, x, k, a4, a5, rfl, hk, rfl, K, e1, e2, ok, mx, ec⟩ := J.of
  have ll := nodup_le ok.nd ok.sub
  have wl : w.length + 1 = l.length := ok.len
  simp only [] at ll
  have kff : h.nx ∉ fs := fun z => by have := nf z; omega
  have kwf : h.nx + 1 ∉ fs := fun z => by have := nf z; omega
  have p2 := p1.kp K fun y my => by simp; exact ⟨fun e => kff (e ▸ my), fun e => kwf (e ▸ my)⟩
  cases k with
  | zero => omega
  | succ k =>
    unfold chn at ec
    cases el : nextL (G x) with
    | none =>
      rw [el] at ec
      simp [linkW, W.eqb, e1, e2, itemsW, lstAt]
      have KK : Kp [] h h' := ⟨Nat.le_trans K0.1 K.1, fun j lj z => by rw [K.2 j (by omega) (by simp; omega)]; exact K0.2 j lj z⟩
      have := q h' KK
      rw [← ec] at this
      simpa [hz, oW] using this
    | some ay =>
      obtain ⟨a, y⟩ := ay
      obtain ⟨my, wa⟩ := nextL_mem p2 mx el
      rw [el] at ec
      simp only at ec
      simp [linkW, W.eqb]
      subst hB
      unfold s_chain_parts_1 s_chain_parts_2
      simp
      have ei : idIn idF h' (.ref y) (.ref h.nx) = some (decide (y ∈ l)) := by
        have aa : h'.get y = _ := (p2.at_ y my).1
        simp only [idIn, aa, seqW, lstAt, e1, idF, refs_pool p2 ok.sub]
        simp
      rw [ei]
      by_cases z : y ∈ l
      · simp [z]
        refine ⟨l.map W.ref, by simp only [itemsW, seqW, lstAt, e1], w.map W.str, by simp only [itemsW, seqW, lstAt, e2], by omega, ?_⟩
        have KK : Kp [] h h' := ⟨Nat.le_trans K0.1 K.1, fun j lj z => by rw [K.2 j (by omega) (by simp; omega)]; exact K0.2 j lj z⟩
        have := q h' KK
        rw [← ec] at this
        simpa [z, oW] using this
      · simp [z]
        unfold s_chain_parts_3 s_chain_parts_4 s_chain_parts_5
        simp [wTyp, e1, e2, Heap.put_get, hz]
        refine ⟨by omega, by omega, ?_⟩
        have K3 : Kp [h.nx, h.nx + 1] h' ((h'.put h.nx (Ob.lst (List.map W.ref l ++ [W.ref y]))).put (h.nx + 1) (Ob.lst (List.map W.str w ++ [W.str a]))) := (Kp.put _ _ (by simp)).trans (Kp.put _ _ (by simp))
        have f1 : ((h'.put h.nx (Ob.lst (List.map W.ref l ++ [W.ref y]))).put (h.nx + 1) (Ob.lst (List.map W.str w ++ [W.str a]))).get h.nx = some (.lst ((l ++ [y]).map W.ref)) := by rw [Heap.put_ne (by omega), Heap.put_same]; simp
        have f2 : ((h'.put h.nx (Ob.lst (List.map W.ref l ++ [W.ref y]))).put (h.nx + 1) (Ob.lst (List.map W.str w ++ [W.str a]))).get (h.nx + 1) = some (.lst ((w ++ [a]).map W.str)) := by rw [Heap.put_same]; simp
        generalize (h'.put h.nx (Ob.lst (List.map W.ref l ++ [W.ref y]))).put (h.nx + 1) (Ob.lst (List.map W.str w ++ [W.str a])) = h3 at K3 f1 f2 ⊢
        have p3 := p2.kp K3 fun y my => by simp; exact ⟨fun e => kff (e ▸ my), fun e => kwf (e ▸ my)⟩
        have ok3 := ok.step my z wa
        have l3 := nodup_le ok3.nd ok3.sub
        simp at l3
        refine next_link_to (p3.at_ y my).1 ⟨fs.length - (l ++ [y]).length, by simp; omega, ⟨l ++ [y], w ++ [a], y, k, _, _, rfl, by simp; omega, rfl, K.trans K3, f1, f2, ok3, my, ?_⟩⟩
        rw [if_neg z] at ec
        exact ec
def chFs (c : Ch) : List (Nat × W) := [(21, .tup (c.L.map W.ref)), (22, .tup (c.W.map W.str)), (23, oW c.R)]
def ChAt (h : Ev.Heap) (k : Nat) (c : Ch) : Prop := h.get k = some (.ins 2 (chFs c))
theorem chinit_to {k : Nat} (e : h.get k = some (.ins 2 [])) (lk : k < h.nx) (kf : k ∉ fs) (p : Pool h fs G) (hs : fs.length ≤ 1000) (m : n ∈ fs) (q : ∀ h', Kp [k] h h' → ChAt h' k (chainOf G n) → Q .non h') : (F_Chain___init__ [.ref k, .ref n] h).to Q E := by
  unfold F_Chain___init__ s_Chain___init__
  simp [pick]
  refine chain_parts_to p hs m fun h1 K1 => ?_
  have e1 := K1.get e lk (by simp)
  simp [e1, Heap.put_get, fPut]
  refine q _ (K1.mono (by simp) |>.trans (((Kp.put _ _ (by simp)).trans (Kp.put _ _ (by simp))).trans (Kp.put _ _ (by simp)))) ?_
  unfold ChAt
  rw [Heap.put_same]
  rfl
theorem mkch_to (p : Pool h fs G) (hs : fs.length ≤ 1000) (m : n ∈ fs) (q : ∀ h', Kp [] h h' → h.nx < h'.nx → ChAt h' h.nx (chainOf G n) → Q (.ref h.nx) h') : (mkObj 2 F_Chain___init__ (pick [(false, 0), (false, 1)]) [.ref n] [] h).to Q E := by
  have nf : ∀ {x : Nat}, x ∈ fs → x < h.nx := fun {x} mx => (p.at_ x mx).2
  unfold mkObj
  simp [pick]
  rw [to_bind]
  refine chinit_to (fs := fs) (Heap.new_same _ _) (by simp) (fun z => by have := nf z; omega) (p.kp (Kp.new [] h _) (by simp)) hs m fun h1 K1 c1 => ?_
  have hn := K1.1
  simp only [Heap.new_nx] at hn
  refine q h1 ⟨by omega, fun j lj _ => ?_⟩ (by omega) c1
  rw [K1.2 j (by simp; omega) (by simp; omega), Heap.new_ne (by omega)]
theorem ways_to {k : Nat} {c : Ch} (a : ChAt h k c) (q : Q (.tup (c.W.map W.str)) h) : (F_Chain_ways [.ref k] h).to Q E := by
  unfold F_Chain_ways s_Chain_ways
  simp [show h.get k = _ from a, chFs, fGet]
  exact q
theorem repeat_to {k : Nat} {c : Ch} (a : ChAt h k c) (q : Q (oW c.R) h) : (F_Chain_repeat [.ref k] h).to Q E := by
  unfold F_Chain_repeat s_Chain_repeat
  simp [show h.get k = _ from a, chFs, fGet]
  exact q
theorem len_to {k : Nat} {c : Ch} (a : ChAt h k c) (l : c.L.length ≤ 1000) (q : Q (.int c.L.length) h) : (bLenC 2 (fun xs h => F_Chain___len__ (pick [(false, 0)] xs []) h) [.ref k] h).to Q E := by
  have a' : h.get k = _ := a
  rw [to_lenC a' rfl]
  unfold F_Chain___len__ s_Chain___len__
  simp [a', pick]
  refine ⟨_, rfl, ?_⟩
  simp
  refine ⟨by omega, ?_⟩
  exact q
theorem get_to {k x i : Nat} {c : Ch} (a : ChAt h k c) (l : c.L.length ≤ 1000) (ex : c.L[i]? = some x) (q : Q (.ref x) h) : (wGetC 2 (fun xs h => F_Chain___getitem__ (pick [(false, 0), (false, 1)] xs []) h) (.ref k) (.int i) h).to Q E := by
  have a' : h.get k = _ := a
  rw [to_getC a' rfl]
  unfold F_Chain___getitem__ s_Chain___getitem__
  simp [a', pick]
  refine ⟨_, rfl, rfl, _, rfl, rfl, _, rfl, ?_⟩
  have li : i < c.L.length := (List.getElem?_eq_some_iff.mp ex).1
  simp
  refine ⟨by omega, _, a', _, rfl, ?_⟩
  simp [atI, ixN, ex, li]
  have : c.L[i] = x := by rw [List.getElem?_eq_getElem li] at ex; exact Option.some.inj ex
  rw [this]
  exact q
end
/-! rows of a chain, its report -/
open TL (tl tl_append tl_num numL ext_tl len_tl)
def rowAt (G : Nat → Flt) (x : Nat) (w : Option Str) : Row := ⟨(G x).num.toNat, (G x).kind, (G x).label, w⟩
def rowsL (G : Nat → Flt) : Option Str → List Nat → List Str → List Row
  | _, [], _ => []
  | w, x :: L, W => rowAt G x w :: rowsL G W.head? L W.tail
def rowsC (G : Nat → Flt) (c : Ch) : List Row := rowsL G none c.L c.W
def wayAt (w : Option Str) (W : List Str) : Nat → Option Str
  | 0 => w
  | j + 1 => W[j]?
theorem rowsL_len {G : Nat → Flt} : ∀ {L : List Nat} {w : Option Str} {W : List Str}, (rowsL G w L W).length = L.length
  | [], _, _ => rfl
  | x :: L, w, W => by unfold rowsL; simp [rowsL_len]
theorem rowsL_get {G : Nat → Flt} : ∀ {L : List Nat} {w : Option Str} {W : List Str} (i : Nat), (rowsL G w L W)[i]? = L[i]?.map fun x => rowAt G x (wayAt w W i)
  | [], _, _, _ => by simp [rowsL]
  | x :: L, w, W, 0 => by simp [rowsL, wayAt]
  | x :: L, w, W, i + 1 => by
    unfold rowsL
    rw [List.getElem?_cons_succ, rowsL_get i, List.getElem?_cons_succ]
    have : wayAt W.head? W.tail i = wayAt w W (i + 1) := by cases W <;> cases i <;> simp [wayAt]
    rw [this]
def downL : Nat → List W
  | 0 => []
  | j + 1 => .int (j : Nat) :: downL j
theorem rangeD_eq (n : Nat) : rangeD ((n : Int) - 1) (-1) = downL n := by
  unfold rangeD
  rw [show ((n : Int) - 1 - -1).toNat = n by omega]
  induction n with
  | zero => rfl
  | succ n ih =>
    rw [List.range_succ_eq_map, List.map_cons, List.map_map, downL, ← ih]
    congr 1
    · congr 1; omega
    · refine List.map_congr_left fun i _ => ?_
      simp only [Function.comp]
      congr 1; omega
theorem rangeR_eq (n : Nat) : (rangeW 0 (n : Int)).reverse = downL n := by
  unfold rangeW
  rw [show ((n : Int) - 0).toNat = n by omega]
  induction n with
  | zero => rfl
  | succ n ih =>
    rw [List.range_succ, List.map_append, List.reverse_append, downL, ← ih]
    simp
theorem lines_cons (r : Row) : ∀ R : List Row, linesOf (r :: R) = lineOf r :: (if R = [] then [] else wordOf r.way :: linesOf R)
  | [] => rfl
  | s :: R => by rw [if_neg (by simp)]; rfl
theorem len_app (a b : Str) : (a ++ b).length = a.length + b.length := by simp only [len_tl, tl_append, List.length_append]
theorem empty_app (a : Str) : Str.empty ++ a = a := ext_tl (by rw [tl_append]; rfl)
theorem log_fits {N : Nat} (h : N < 1000000000) : N.log2 < 1920 := by
  by_cases z : N = 0
  · rw [z]; decide
  · exact (Nat.log2_lt z).mpr (by have : (1000000000 : Nat) ≤ 2 ^ 1920 := by decide
                                  omega)
theorem word_step {w : Str} (h : w = ("cause" : Str) ∨ w = ("context" : Str)) : (tab_STEP_LINES.find? fun p => p.1 == w).map (·.2) = some (wordOf (some w)) := by
  rcases h with rfl | rfl <;> decide +kernel
section
variable {h : Ev.Heap} {n : Nat} {f : Flt} {fs : List Nat} {G : Nat → Flt} {Q : W → Ev.Heap → Prop} {E : Nat → List (Nat × W) → Ev.Heap → Prop} {P : Po} {ls : Ls} {c : Ch}
theorem rep_step {kc kl i x : Nat} {cur : List Str} {a0 a4 : Option W} (p : Pool h fs G) (hc : ChAt h kc c) (ok : ChOk fs n c) (l1 : c.L.length ≤ 1000) (ex : c.L[i]? = some x) (gr : GoodR (rowAt G x (wayAt none c.W i))) (n0 : 0 ≤ (G x).num) (el : h.get kl = some (.lst (cur.map W.str))) (lc : cur.length ≤ 10000) (kf : kl ∉ fs) (kk : kl ≠ kc) (lk : kl < h.nx)
    (q : ∀ h', Kp [kl] h h' → h'.nx = h.nx → h'.get kl = some (.lst ((cur ++ [lineOf (rowAt G x (wayAt none c.W i))] ++ (if i = 0 then [] else [wordOf (wayAt none c.W i)])).map W.str)) → P.nx [a0, some (.ref kc), some (.ref kl), some (.int i), some (.ref x)] h') :
    ((sSeq s_report_1 (sSeq s_report_2 s_report_3)) [a0, some (.ref kc), some (.ref kl), some (.int i), a4] h).to P := by
  have hz : sizeLine = 16777216 := sizeLine_eq
  have mx : x ∈ fs := ok.sub x (List.mem_of_getElem? ex)
  have ax := (p.at_ x mx).1
  have ax' : h.get x = _ := ax
  have hc' : h.get kc = _ := hc
  have gk := kind_len gr.k
  have gl := label_len gr.l
  have gn := nS_len gr.n
  obtain ⟨N, en⟩ : ∃ N : Nat, (G x).num = (N : Int) := ⟨(G x).num.toNat, by omega⟩
  have eN : (G x).num.toNat = N := by omega
  have gN : N < 1000000000 := by have := gr.n; simp only [rowAt] at this; omega
  simp only [rowAt] at gk gl gn
  unfold s_report_1 s_report_2 s_report_3
  simp
  refine get_to hc l1 ex ?_
  simp [wTyp, el, ax', empty_app, len_app, hz]
  refine kind_to ax ?_
  simp [empty_app, len_app, hz]
  have s2 : (Str.ofString ": ").length = 2 := by decide +kernel
  have s3 : (Str.ofString " (#").length = 3 := by decide +kernel
  have s1 : (Str.ofString ")").length = 1 := by decide +kernel
  refine ⟨by omega, by omega, ⟨_, ax'⟩, label_to ax ?_⟩
  simp [len_app, hz]
  refine ⟨by omega, by omega, by omega, ⟨_, ax'⟩, number_to ax ?_⟩
  rw [en]
  simp [len_app, hz]
  rw [show Str.ofString ((N : Int).repr) = nS N from rfl]
  rw [show (G x).kind ++ Str.ofString ": " ++ (G x).label ++ Str.ofString " (#" ++ nS N ++ Str.ofString ")" = lineOf (rowAt G x (wayAt none c.W i)) by simp only [lineOf, rowAt, eN]]
  rw [eN] at gn
  refine ⟨log_fits gN, by omega, by omega, _, el, by simp; omega, ?_⟩
  have K1 : Kp [kl] h (h.put kl (.lst (cur.map W.str ++ [.str (lineOf (rowAt G x (wayAt none c.W i)))]))) := Kp.put _ _ (by simp)
  have e1 : (h.put kl (.lst (cur.map W.str ++ [.str (lineOf (rowAt G x (wayAt none c.W i)))]))).get kl = some (.lst ((cur ++ [lineOf (rowAt G x (wayAt none c.W i))]).map W.str)) := by rw [Heap.put_same]; simp
  have n1 : (h.put kl (.lst (cur.map W.str ++ [.str (lineOf (rowAt G x (wayAt none c.W i)))]))).nx = h.nx := rfl
  have c1 : ChAt (h.put kl (.lst (cur.map W.str ++ [.str (lineOf (rowAt G x (wayAt none c.W i)))]))) kc c := by unfold ChAt; rw [Heap.put_ne kk.symm]; exact hc
  generalize h.put kl (.lst (cur.map W.str ++ [.str (lineOf (rowAt G x (wayAt none c.W i)))])) = h1 at K1 e1 n1 c1 ⊢
  by_cases z : i = 0
  · exact .inl ⟨z, by have := q h1 K1 n1 (by rw [if_pos z]; simpa using e1); exact this⟩
  · refine .inr ⟨by omega, ⟨_, c1⟩, ways_to c1 ?_⟩
    obtain ⟨j, rfl⟩ : ∃ j, i = j + 1 := ⟨i - 1, by omega⟩
    have li : j + 1 < c.L.length := (List.getElem?_eq_some_iff.mp ex).1
    have lj : j < c.W.length := by have := ok.len; omega
    have ew : c.W[j]? = some c.W[j] := List.getElem?_eq_getElem lj
    have ws := word_step (ok.way _ (List.getElem_mem lj))
    have wa : wayAt none c.W (j + 1) = some c.W[j] := ew
    rw [show ((j + 1 : Nat) : Int) - 1 = (j : Int) by omega]
    simp [atI, ixN, lj]
    obtain ⟨pr, f1, f2⟩ := Option.map_eq_some_iff.mp ws
    refine ⟨pr.2, ⟨pr.1, f1⟩, _, e1, by simp; omega, ?_⟩
    have := q (h1.put kl (.lst ((cur ++ [lineOf (rowAt G x (wayAt none c.W (j + 1)))]).map W.str ++ [.str pr.2]))) (K1.trans (Kp.put _ _ (by simp))) n1 (by rw [Heap.put_same, if_neg (by omega), wa, f2]; simp)
    simpa using this
structure JRp (h : Ev.Heap) (kc kl : Nat) (rows : List Row) (tot : List Str) (a0 : Option W) (xs : List W) (ls : Ls) (h' : Ev.Heap) : Prop where
  of : ∃ (j : Nat) (cur : List Str) (a3 a4 : Option W), xs = downL j ∧ j ≤ rows.length ∧ ls = [a0, some (.ref kc), some (.ref kl), a3, a4] ∧ Kp [kl] h h' ∧ h'.get kl = some (.lst (cur.map W.str)) ∧ cur ++ linesOf (rows.take j).reverse = tot
theorem take_rev {rows : List Row} {j : Nat} {r : Row} (e : rows[j]? = some r) : (rows.take (j + 1)).reverse = r :: (rows.take j).reverse := by
  rw [List.take_add_one, e]; simp
theorem good_row {w : Option Str} {x : Nat} (g : GoodF (G x)) : GoodR (rowAt G x w) := ⟨by have := g.n0; have := g.n1; show (G x).num.toNat < 1000000000; omega, kindsM_ok _ g.k, labelsM_ok _ g.l⟩
def repN (G : Nat → Flt) (c : Ch) : Option Nat := c.R.map fun x => (G x).num.toNat
def totOf (G : Nat → Flt) (c : Ch) : List Str := preOf (repN G c) ++ linesOf (rowsC G c).reverse
theorem rowsC_mem {r : Row} (m : r ∈ rowsC G c) : ∃ (i x : Nat), c.L[i]? = some x ∧ r = rowAt G x (wayAt none c.W i) := by
  obtain ⟨i, e⟩ := List.mem_iff_getElem?.mp m
  unfold rowsC at e
  rw [rowsL_get] at e
  obtain ⟨x, e1, e2⟩ := Option.map_eq_some_iff.mp e
  exact ⟨i, x, e1, e2.symm⟩
theorem tot_len (ok : ChOk fs n c) : (totOf G c).length ≤ 2 * c.L.length := by
  have hl : (rowsC G c).length = c.L.length := rowsL_len
  obtain ⟨r, hr⟩ := ok.hd
  have l1 : 1 ≤ c.L.length := by rw [hr]; simp
  have := lines_len (rowsC G c).reverse (by intro z; have := congrArg List.length z; rw [List.length_reverse, hl, List.length_nil] at this; omega)
  rw [List.length_reverse, hl] at this
  unfold totOf
  rw [List.length_append]
  have : (preOf (repN G c)).length ≤ 1 := by cases repN G c <;> simp [preOf]
  omega
def GoodX (G : Nat → Flt) (x : Nat) : Prop := (∀ w, GoodR (rowAt G x w)) ∧ 0 ≤ (G x).num
theorem report_toX (p : Pool h fs G) (gd : ∀ x ∈ fs, GoodX G x) (hs : fs.length ≤ 1000) (m : n ∈ fs) (q : ∀ h', Kp [] h h' → Q (.str (Txt.join "\n" (totOf G (chainOf G n)))) h') : (F_report [.ref n] h).to Q E := by
  have hz : sizeLine = 16777216 := sizeLine_eq
  have nf : ∀ {x : Nat}, x ∈ fs → x < h.nx := fun {x} mx => (p.at_ x mx).2
  have ok := chainOf_ok p m
  generalize ec : chainOf G n = c at ok q ⊢
  have l1 := nodup_le ok.nd ok.sub
  have tl0 := tot_len (G := G) ok
  unfold F_report s_report s_report_4 s_report_5 s_report_6
  generalize hB : sSeq s_report_7 s_report_8 = B
  simp [pick]
  refine need_to (p.at_ n m).1 ?_
  refine mkch_to p hs m fun h1 K1 n1 c1 => ?_
  rw [ec] at c1
  have p1 := p.kp K1 (by simp)
  have hl : (rowsC G c).length = c.L.length := rowsL_len
  have tail : ∀ (h2 : Ev.Heap) (kl : Nat), h.nx < kl → kl < h2.nx → Kp [] h1 h2 → h2.get kl = some (.lst ((preOf (repN G c)).map W.str)) → (B [some (W.ref n), some (W.ref h.nx), some (W.ref kl), none, none] h2).to
      { nx := fun x h' => Q W.non h', rt := Q, bk := fun x x_1 => False, ct := fun x x_1 => False, ex := fun c fs x h' => E c fs h' } := by
    intro h2 kl lk lk2 K2 e2
    have c2 : ChAt h2 h.nx c := K2.get c1 n1 (by simp)
    have p2 := p1.kp K2 (by simp)
    have kf : kl ∉ fs := fun z => by have := nf z; omega
    subst hB
    unfold s_report_7 s_report_8
    generalize hB : sSeq s_report_1 (sSeq s_report_2 s_report_3) = B
    simp
    refine len_to c2 (by omega) ?_
    simp
    refine ⟨_, _, ⟨rfl, rfl⟩, by simp [smallR]; omega, ?_⟩
    rw [rangeD_eq]
    refine for_inv (JRp h2 h.nx kl (rowsC G c) (totOf G c) (some (.ref n))) _ _ _ ⟨⟨c.L.length, preOf (repN G c), none, none, rfl, by omega, rfl, Kp.refl _ _, e2, by rw [← hl, List.take_length]; rfl⟩⟩ ?_ ?_
    · rintro x xs ls h3 ⟨j, cur, a3, a4, ex, hj, rfl, K3, e3, tot⟩
      refine ⟨rfl, _, rfl, ?_⟩
      cases j with
      | zero => cases ex
      | succ j =>
        cases ex
        subst hB
        have lj : j < c.L.length := by omega
        have ej : c.L[j]? = some c.L[j] := List.getElem?_eq_getElem lj
        have mj := ok.sub _ (List.getElem_mem lj)
        have er : (rowsC G c)[j]? = some (rowAt G c.L[j] (wayAt none c.W j)) := by unfold rowsC; rw [rowsL_get, ej]; rfl
        have g := gd _ mj
        have lc := congrArg List.length tot
        rw [List.length_append] at lc
        refine rep_step (fs := fs) (p2.kp K3 (fun x mx => by simp; rintro rfl; exact kf mx)) (K3.get c2 (by have := K2.1; omega) (by simp; omega)) ok (by omega) ej (g.1 _) g.2 e3 (by omega) kf (by omega) (by have := K3.1; omega) fun h4 K4 n4 e4 => ?_
        refine ⟨j, _, _, _, rfl, by omega, rfl, K3.trans K4, e4, ?_⟩
        rw [take_rev er, lines_cons] at tot
        rw [← tot]
        by_cases z : j = 0
        · subst z; simp [linesOf]
        · have : (List.take j (rowsC G c)).reverse ≠ [] := by intro z2; have := congrArg List.length z2; rw [List.length_reverse, List.length_take, List.length_nil] at this; omega
          rw [if_neg z, if_neg this]
          simp [rowAt]
    · rintro ls h3 ⟨j, cur, a3, a4, ex, hj, rfl, K3, e3, tot⟩
      refine ⟨rfl, ?_⟩
      cases j with
      | succ j => cases ex
      | zero =>
        have : cur = totOf G c := by rw [← tot]; simp [linesOf]
        subst this
        simp [wTyp]
        refine join_to e3 ?_ (q h3 ?_)
        · have := sum_le (B := 67) (totOf G c) fun s ms => (List.mem_append.mp ms).elim (fun m => (pre_in (o := repN G c) ?_ s m).1) fun m => (lines_in ?_ s m).1
          · have s1 : (Str.ofString "\n").length = 1 := by decide +kernel
            rw [s1]; omega
          · intro N e
            obtain ⟨r, eR, rfl⟩ := Option.map_eq_some_iff.mp e
            have g1 := ((gd r (ok.sub _ (ok.rep r eR))).1 none).n
            simp only [rowAt] at g1
            omega
          · intro r mr
            obtain ⟨i, x, e1, rfl⟩ := rowsC_mem (List.mem_reverse.mp mr)
            exact (gd x (ok.sub _ (List.mem_of_getElem? e1))).1 _
        · have K12 := K1.trans K2
          exact ⟨Nat.le_trans K12.1 K3.1, fun j lj z => by rw [K3.2 j (by have := K12.1; omega) (by simp; omega)]; exact K12.2 j lj z⟩
  simp [show h1.get h.nx = _ from c1]
  refine repeat_to c1 ?_
  have s16 : (Str.ofString "  repeats from #").length = 16 := by decide +kernel
  simp [hz, empty_app, len_app]
  cases eR : c.R with
  | none =>
    simp [oW, W.eqb]
    exact tail _ _ (by omega) (by simp) (Kp.new _ _ _) (by rw [Heap.new_same]; simp [repN, eR, preOf])
  | some r =>
    have mr := ok.sub _ (ok.rep r eR)
    have ar := (p1.at_ r mr).1
    have g0 := (gd r mr).2
    have g1 := ((gd r mr).1 none).n
    simp only [rowAt] at g1
    simp [oW, W.eqb]
    refine ⟨by omega, ⟨_, c1⟩, repeat_to c1 ?_⟩
    rw [eR]
    simp [oW]
    refine ⟨⟨_, ar⟩, number_to ar ?_⟩
    obtain ⟨N, en⟩ : ∃ N : Nat, (G r).num = (N : Int) := ⟨(G r).num.toNat, by omega⟩
    have gN : N < 1000000000 := by omega
    have gn := nS_len gN
    rw [en]
    simp
    rw [show Str.ofString ((N : Int).repr) = nS N from rfl]
    exact ⟨log_fits gN, by omega, tail _ _ (by omega) (by simp) (Kp.new _ _ _) (by rw [Heap.new_same]; simp [repN, eR, preOf, en])⟩
theorem report_to (p : PoolOk h fs G) (hs : fs.length ≤ 1000) (m : n ∈ fs) (q : ∀ h', Kp [] h h' → Q (.str (Txt.join "\n" (totOf G (chainOf G n)))) h') : (F_report [.ref n] h).to Q E :=
  report_toX p.pool (fun x mx => ⟨fun w => good_row (p.good x mx), (p.good x mx).n0⟩) hs m q
/-! two faults -/
theorem raise2_to {a b : Nat} {f g : Flt} (A : FltAt h a f) (B : FltAt h b g) (la : a < h.nx) (lb : b < h.nx) (ne : a ≠ b) (f1 : f.ctx = none) (f2 : f.cau = none) (g1 : g.ctx = none) (g2 : g.cau = none) (q : ∀ h', Kp [a, b] h h' → FltAt h' a f → FltAt h' b { g with ctx := some a } → Q .non h') : (F_raise_under [.ref b, .ref a] h).to Q E := by
  have p : Pool h [a, b] fun x => if x = b then g else f := ⟨fun n m => by
      simp at m
      rcases m with rfl | rfl
      · exact ⟨by simpa [ne] using A, la⟩
      · exact ⟨by simpa using B, lb⟩, by simpa using ne, fun n _ m e => by by_cases z : n = b <;> simp_all, fun n _ m e => by by_cases z : n = b <;> simp_all⟩
  refine raise_to (o := some a) p (by simp) (by simp) (fun _ e => by cases e; simp) (fun x _ => ⟨0, .nil (by by_cases z : x = b <;> simp_all)⟩) (fun e => by
      rcases e with e | e
      · cases e
      · exact (ne (Option.some.inj e)).elim) fun hd y k h' e _ s K p' => ?_
  cases e
  have ey : y = a := by
    cases s with
    | here _ => rfl
    | step e _ _ => simp_all
  subst ey
  have pa := (p'.at_ y (by simp)).1
  have pb := (p'.at_ b (by simp)).1
  refine q h' K ?_ ?_
  · have : raised (fun x => if x = b then g else f) b y y y = f := by
      cases f; simp_all [raised, upG]
    rw [this] at pa; exact pa
  · have : raised (fun x => if x = b then g else f) b y y b = { g with ctx := some y } := by
      simp [raised, upG, ne.symm]
    rw [this] at pb; exact pb
theorem rep2_to {a b : Nat} {f g : Flt} (A : FltAt h a f) (B : FltAt h b g) (la : a < h.nx) (lb : b < h.nx) (ne : a ≠ b) (f1 : f.ctx = none) (f2 : f.cau = none) (g1 : g.ctx = some a) (g2 : g.cau = none) (g3 : g.hid = false)
    (gf : ∀ w, GoodR ⟨f.num.toNat, f.kind, f.label, w⟩) (gg : ∀ w, GoodR ⟨g.num.toNat, g.kind, g.label, w⟩) (f0 : 0 ≤ f.num) (g0 : 0 ≤ g.num)
    (q : ∀ h', Kp [] h h' → Q (.str (Txt.join "\n" (EvF.linesOf [⟨f.num.toNat, f.kind, f.label, some "context"⟩, ⟨g.num.toNat, g.kind, g.label, none⟩]))) h') : (F_report [.ref b] h).to Q E := by
  have p : Pool h [a, b] fun x => if x = b then g else f := ⟨fun n m => by
      simp at m
      rcases m with rfl | rfl
      · exact ⟨by simpa [ne] using A, la⟩
      · exact ⟨by simpa using B, lb⟩, by simpa using ne, fun n _ m e => by by_cases z : n = b <;> simp_all, fun n _ m e => by by_cases z : n = b <;> simp_all⟩
  have ec : chainOf (fun x => if x = b then g else f) b = ⟨[b, a], ["context"], none⟩ := by
    show chn _ (1998 + 1 + 1) [b] [] b = _
    simp [chn, nextL, g1, g2, g3, ne, f1, f2]
  refine report_toX p (fun x mx => ?_) (by simp) (by simp) fun h' K => ?_
  · unfold GoodX rowAt
    simp only
    split
    · exact ⟨gg, g0⟩
    · exact ⟨gf, f0⟩
  · rw [ec]
    have : totOf (fun x => if x = b then g else f) ⟨[b, a], ["context"], none⟩ = EvF.linesOf [⟨f.num.toNat, f.kind, f.label, some "context"⟩, ⟨g.num.toNat, g.kind, g.label, none⟩] := by
      simp [totOf, repN, preOf, rowsC, rowsL, rowAt, ne]
    rw [this]
    exact q h' K
end
end EvF
set_option maxRecDepth 100000
set_option maxHeartbeats 1000000
/-! EvGen: generators: the consumer as a function that gets each item. -/
namespace Ev
open PySem L2 PySem.Spec PyProof.Rows GenW

/-- what the consumer has so far: how many items came, what it keeps -/
structure GA where
  k : Nat
  ws : List W
/-- the consumer: what it makes of an item -/
abbrev Con := List W → W → Heap → Option (List W × Heap)
/-- how a statement of a generator ends -/
inductive GR where
  | nx (a : GA) (ls : Ls) (h : Heap)
  | rt (a : GA) (w : W) (h : Heap)
  | bk (a : GA) (ls : Ls) (h : Heap)
  | ct (a : GA) (ls : Ls) (h : Heap)
  | exc (c : Nat) (fs : List (Nat × W)) (h : Heap)
  | bad
abbrev SGn := Con → GA → Ls → Heap → GR
/-- how a generator ends -/
inductive GD where
  | ok (a : GA) (h : Heap)
  | exc (c : Nat) (fs : List (Nat × W)) (h : Heap)
  | bad
/-- a consumer: its own objects, what it does, what it keeps true -/
structure GCon (K : PySem.W.Frag) where
  T : List Addr
  c : Con
  CI : GA → List Addr → Hp → List (Addr × Obj) → Prop
  st : ∀ {a ρ ρ' H H' tp}, CI a ρ H tp → Ex ρ ρ' H H' → CI a ρ' H' tp
  M : List Addr → Hp → Prop := fun _ _ => True
  mst : ∀ {ρ ρ' H H'}, M ρ H → Ex ρ ρ' H H' → M ρ' H' := by intros; trivial
/-- the generator runs -/
structure GSt (X : Cx) (N : Nm) (C : GCon X.K) (ρ0 : List Addr) (ip : List (Addr × Obj)) (a : GA) (ls : Ls) (h : Heap) (ρ : List Addr) (σ : L2.St) (H : Hp) (s : Shared) : Prop where
  ex : Ex ρ0 ρ X.H_0 H
  lr : LR X.K ρ H ls σ
  hr : HR X.K N ρ h H
  mo : C.M ρ H
  inv : ∃ tp, tp.map (·.1) = C.T ∧ C.CI a ρ H tp ∧ Inv X (tp ++ ip) σ H s
/-- it sleeps: what its consumer may know, what it must keep (gp) -/
def YE (P : Program) (w : World) (K : PySem.W.Frag) (N : Nm) (C : GCon K) (outer : List Env) (H0 : Hp) (sc : Shared) (ρ0 : List Addr) (ga : Addr) (g : Nat) : Protocol := fun n _ v s kap =>
  ∃ (a : GA) (wv : W) (x : V) (h : Heap) (ρ : List Addr) (H : Hp) (tp gp : List (Addr × Obj)), n + 1 + a.k = sizeLine ∧ RelV x v ∧ VR K ρ H wv x ∧ HR K N ρ h H ∧ Ex ρ0 ρ H0 H ∧ tp.map (·.1) = C.T ∧ C.CI a ρ H tp ∧
    s.os = sc.os ∧ AllBare s.gens ∧ Un (frs outer) [] H0 H sc.heap s.heap ∧ HOk P w H s.heap ∧ s.heap.NoLimit ∧ s.heap.IsGen ga g ∧
    (∀ p ∈ tp ++ gp, s.heap.get? p.1 = some p.2 ∧ H p.1 = none ∧ p.1 ∉ frs outer ∧ ∀ v, p.2.data ≠ .cell v) ∧ (∀ p ∈ gp, p.1 ∉ C.T) ∧ (∃ go, (ga, go) ∈ gp) ∧
    ∃ ws' h', C.c a.ws wv h = some (ws', h') ∧
    ∀ s' ρ' H' tp', s'.os = sc.os → AllBare s'.gens → Un (frs outer) [] H0 H' sc.heap s'.heap → HOk P w H' s'.heap → Ex ρ ρ' H H' → HR K N ρ' h' H' → tp'.map (·.1) = C.T → C.CI ⟨a.k + 1, ws'⟩ ρ' H' tp' →
      (∀ p ∈ tp' ++ gp, s'.heap.get? p.1 = some p.2 ∧ H' p.1 = none) → (∀ p ∈ tp', ∀ v, p.2.data ≠ .cell v) → ∀ v, (v = .none ∨ v = .bool true) → kap (.send v) s'
/-- where the generator's code stands -/
structure GCt (X : Cx) (C : GCon X.K) (ga : Addr) (g : Nat) (ip : List (Addr × Obj)) (A : Around) (c : Code) (fs : List Frame) (gd : Bool → Bool) : Prop where
  ip : ∀ p ∈ X.pn ++ ip, p.1 ∉ C.T
  loc : X.env.locals ∉ C.T
  gen : ∃ go, (ga, go) ∈ X.pn ∧ ∀ h : PySem.Heap, h.get? ga = some go → h.IsGen ga g
  cells : ∀ x c, X.env.cells.lookup x ≠ some c
  ex0 : X.ex = []
  over : A.over c fs = X.A
  split : splitAtGen fs = none
  guard : fs.any Frame.guarded = false
  gd : gd false = false
/-- what follows -/
def GOut (X : Cx) (N : Nm) (C : GCon X.K) (ρ0 : List Addr) (ip : List (Addr × Obj)) (E : XK) (Kc : Nat → Shared → Flow → Shared → Prop) : GR → Prop
  | .nx a ls h => ∀ n s₀ ρ σ H s, n + a.k = sizeLine → GSt X N C ρ0 ip a ls h ρ σ H s → Kc n s₀ .next s
  | .bk a ls h => ∀ n s₀ ρ σ H s, n + a.k = sizeLine → GSt X N C ρ0 ip a ls h ρ σ H s → Kc n s₀ .brk s
  | .ct a ls h => ∀ n s₀ ρ σ H s, n + a.k = sizeLine → GSt X N C ρ0 ip a ls h ρ σ H s → Kc n s₀ .cont s
  | .rt a wv h => ∀ n s₀ ls ρ σ H s v u, n + a.k = sizeLine → GSt X N C ρ0 ip a ls h ρ σ H s → VR X.K ρ H wv v → RelV v u → Kc n s₀ (.ret u) s
  | .exc c fs h => ∀ ρ H d, Ex ρ0 ρ X.H_0 H → HR X.K N ρ h H → XR X.K N ρ H fs d → E (.ref (N.ca c)) d H
  | .bad => False
structure EG1 (X : Cx) (N : Nm) (E : XK) (st : Stmt) (f : SGn) : Prop where
  run : ∀ (C : GCon X.K) (ρ0 : List Addr) (ga : Addr) (g : Nat) (A : Around) (ip : List (Addr × Obj)) (R : GenEnd) (n : Nat) (a : GA) (s₀ s : Shared) (c : Code) (fs : List Frame) (K : Flow → Sem PySem.Fin) (J : Value → Sem PySem.Fin) (gd : Bool → Bool) (lv : List Value → List Value) (ls : Ls) (h : Heap) (ρ : List Addr) (σ : L2.St) (H : Hp),
    GCt X C ga g ip A c fs gd → n + a.k = sizeLine → GSt X N C ρ0 ip a ls h ρ σ H s →
    (∀ n s₀ e s, X.xe e s → Seg (model X.prog X.w) A R (YE X.prog X.w X.K N C X.outer X.H_0 X.s_0 ρ0 ga g) n s₀ c (J e) fs s) →
    GOut X N C ρ0 ip E (fun n s₀ f s => Seg (model X.prog X.w) A R (YE X.prog X.w X.K N C X.outer X.H_0 X.s_0 ρ0 ga g) n s₀ c (K f) fs s) (f C.c a ls h) →
    Seg (model X.prog X.w) A R (YE X.prog X.w X.K N C X.outer X.H_0 X.s_0 ρ0 ga g) n s₀ c ((exec st X.env).wrap K J gd lv) fs s
structure EGs (X : Cx) (N : Nm) (E : XK) (st : List Stmt) (f : SGn) : Prop where
  run : ∀ (C : GCon X.K) (ρ0 : List Addr) (ga : Addr) (g : Nat) (A : Around) (ip : List (Addr × Obj)) (R : GenEnd) (n : Nat) (a : GA) (s₀ s : Shared) (c : Code) (fs : List Frame) (K : Flow → Sem PySem.Fin) (J : Value → Sem PySem.Fin) (gd : Bool → Bool) (lv : List Value → List Value) (ls : Ls) (h : Heap) (ρ : List Addr) (σ : L2.St) (H : Hp),
    GCt X C ga g ip A c fs gd → n + a.k = sizeLine → GSt X N C ρ0 ip a ls h ρ σ H s →
    (∀ n s₀ e s, X.xe e s → Seg (model X.prog X.w) A R (YE X.prog X.w X.K N C X.outer X.H_0 X.s_0 ρ0 ga g) n s₀ c (J e) fs s) →
    GOut X N C ρ0 ip E (fun n s₀ f s => Seg (model X.prog X.w) A R (YE X.prog X.w X.K N C X.outer X.H_0 X.s_0 ρ0 ga g) n s₀ c (K f) fs s) (f C.c a ls h) →
    Seg (model X.prog X.w) A R (YE X.prog X.w X.K N C X.outer X.H_0 X.s_0 ρ0 ga g) n s₀ c ((execs st X.env).wrap K J gd lv) fs s

/-! ### statements that hand out nothing -/
def gPl (s : SS) : SGn := fun _ a ls h => match s ls h with
  | .nx ls' h' => .nx a ls' h'
  | .rt w h' => .rt a w h'
  | .bk ls' h' => .bk a ls' h'
  | .ct ls' h' => .ct a ls' h'
  | .exc c fs _ h' => .exc c fs h'
  | .bad => .bad
/-- all ends of a statement, told -/
def allE (K : PySem.W.Frag) (N : Nm) (ρ : List Addr) (H : Hp) (r : SR) : Ends where
  nx := fun σ' H' => ∃ ρ' ls' h', r = .nx ls' h' ∧ Ex ρ ρ' H H' ∧ LR K ρ' H' ls' σ' ∧ HR K N ρ' h' H'
  bk := fun σ' H' => ∃ ρ' ls' h', r = .bk ls' h' ∧ Ex ρ ρ' H H' ∧ LR K ρ' H' ls' σ' ∧ HR K N ρ' h' H'
  ct := fun σ' H' => ∃ ρ' ls' h', r = .ct ls' h' ∧ Ex ρ ρ' H H' ∧ LR K ρ' H' ls' σ' ∧ HR K N ρ' h' H'
  rt := fun v H' => ∃ ρ' w h', r = .rt w h' ∧ Ex ρ ρ' H H' ∧ VR K ρ' H' w v ∧ HR K N ρ' h' H'
theorem allE_out {K : PySem.W.Frag} {N : Nm} {ρ : List Addr} {H : Hp} {r : SR} {Wx : WX} (hb : r ≠ .bad) (he : ∀ c fs ls h', r = .exc c fs ls h' → ∀ ρ' σ' H' d, Ex ρ ρ' H H' → HR K N ρ' h' H' → XR K N ρ' H' fs d → Wx (.ref (N.ca c)) d σ' H') : OutS K N ρ H r (allE K N ρ H r) Wx := by
  cases r with
  | nx ls h' => exact fun ρ' σ' H' ex l r => ⟨ρ', ls, h', rfl, ex, l, r⟩
  | bk ls h' => exact fun ρ' σ' H' ex l r => ⟨ρ', ls, h', rfl, ex, l, r⟩
  | ct ls h' => exact fun ρ' σ' H' ex l r => ⟨ρ', ls, h', rfl, ex, l, r⟩
  | rt w h' => exact fun ρ' H' v ex r x => ⟨ρ', w, h', rfl, ex, x, r⟩
  | exc c fs ls h' => exact fun ρ' σ' H' d ex _ r x => he c fs ls h' rfl ρ' σ' H' d ex r x
  | bad => exact (hb rfl).elim
section
variable {X : Cx} {N : Nm} {E : XK} {st : Stmt} {rest : List Stmt}
theorem pl_in {C : GCon X.K} {ρ0 : List Addr} {ip : List (Addr × Obj)} {Kc : Nat → Shared → Flow → Shared → Prop} {s : SS} {a : GA} {ls : Ls} {h : Heap} {ρ : List Addr} {σ : L2.St} {H : Hp} {tp : List (Addr × Obj)} (ex0 : Ex ρ0 ρ X.H_0 H) (l : LR X.K ρ H ls σ) (hr : HR X.K N ρ h H)
    (o : GOut X N C ρ0 ip E Kc (gPl s C.c a ls h)) : LS X.K N (fun c d _ H' => E c d H') s (allE X.K N ρ H (s ls h)) σ H := by
  unfold gPl at o
  refine ⟨ρ, ls, h, l, hr, allE_out (fun e => ?_) fun c fs ls' h' e ρ' σ' H' d ex r x => ?_⟩
  · rw [e] at o; exact o
  · rw [e] at o; exact o ρ' H' d (ex0.trans ex) r x
theorem pl_out {C : GCon X.K} {ρ0 : List Addr} {ip : List (Addr × Obj)} {Kc : Nat → Shared → Flow → Shared → Prop} {s : SS} {a : GA} {ls : Ls} {h : Heap} {ρ : List Addr} {H : Hp} {tp : List (Addr × Obj)} {n : Nat} {s₀ s' : Shared} {f : Flow} (hT : tp.map (·.1) = C.T) (ci : C.CI a ρ H tp) (mo : C.M ρ H)
    (ex0 : Ex ρ0 ρ X.H_0 H) (hn : n + a.k = sizeLine) (hs : SP X (tp ++ ip) (allE X.K N ρ H (s ls h)) f s') (o : GOut X N C ρ0 ip E Kc (gPl s C.c a ls h)) : Kc n s₀ f s' := by
  unfold gPl at o
  cases f with
  | next =>
    obtain ⟨σ', H', I, ρ', ls', h', e, ex, l, r⟩ := hs
    rw [e] at o
    exact o n s₀ ρ' σ' H' s' hn ⟨ex0.trans ex, l, r, C.mst mo ex, tp, hT, C.st ci ex, I⟩
  | brk =>
    obtain ⟨σ', H', I, ρ', ls', h', e, ex, l, r⟩ := hs
    rw [e] at o
    exact o n s₀ ρ' σ' H' s' hn ⟨ex0.trans ex, l, r, C.mst mo ex, tp, hT, C.st ci ex, I⟩
  | cont =>
    obtain ⟨σ', H', I, ρ', ls', h', e, ex, l, r⟩ := hs
    rw [e] at o
    exact o n s₀ ρ' σ' H' s' hn ⟨ex0.trans ex, l, r, C.mst mo ex, tp, hT, C.st ci ex, I⟩
  | ret u =>
    obtain ⟨v, σ', H', I, rv, ρ', w, h', e, ex, x, r⟩ := hs
    rw [e] at o
    have lr : LR X.K ρ' H' (σ'.map fun _ => none) σ' := ⟨by simp, fun i w e => by
      rw [List.getElem?_map] at e
      cases q : σ'[i]? <;> rw [q] at e <;> cases e⟩
    exact o n s₀ _ ρ' σ' H' s' v u hn ⟨ex0.trans ex, lr, r, C.mst mo ex, tp, hT, C.st ci ex, I⟩ x rv
theorem eg_pl {s : SS} (hp : PS X st (LS X.K N (fun c d _ H' => E c d H') s)) : EG1 X N E st (gPl s) := by
  refine ⟨fun C ρ0 ga g A ip R n a s₀ sh c fs K J gd lv ls h ρ σ H ct hn S hx o => ?_⟩
  obtain ⟨ex0, l, hr, mo, tp, hT, ci, I⟩ := S
  refine seg_wrap ?_
  rw [ct.over]
  exact wpAny_mono (hp.run _ sh σ H _ I (pl_in (tp := tp) ex0 l hr o)) (fun f s' hs => pl_out hT ci mo ex0 hn hs o) fun x s' hx' => hx n s₀ x s' hx'
theorem eg_pls {s : SS} (hp : PSs X rest (LS X.K N (fun c d _ H' => E c d H') s)) : EGs X N E rest (gPl s) := by
  refine ⟨fun C ρ0 ga g A ip R n a s₀ sh c fs K J gd lv ls h ρ σ H ct hn S hx o => ?_⟩
  obtain ⟨ex0, l, hr, mo, tp, hT, ci, I⟩ := S
  refine seg_wrap ?_
  rw [ct.over]
  exact wpAny_mono (hp.run _ sh σ H _ I (pl_in (tp := tp) ex0 l hr o)) (fun f s' hs => pl_out hT ci mo ex0 hn hs o) fun x s' hx' => hx n s₀ x s' hx'
def gNil : SGn := fun _ a ls h => .nx a ls h
theorem eg_nil : EGs X N E [] gNil := by
  refine ⟨fun C ρ0 ga g A ip R n a s₀ sh c fs K J gd lv ls h ρ σ H ct hn S hx o => ?_⟩
  exact seg_execs_nil (o n s₀ ρ σ H sh hn S)
def gSq (f f' : SGn) : SGn := fun c a ls h => match f c a ls h with
  | .nx a' ls' h' => f' c a' ls' h'
  | r => r
theorem eg_cons {f f' : SGn} (h1 : EG1 X N E st f) (h2 : EGs X N E rest f') : EGs X N E (st :: rest) (gSq f f') := by
  refine ⟨fun C ρ0 ga g A ip R n a s₀ sh c fs K J gd lv ls h ρ σ H ct hn S hx o => ?_⟩
  refine seg_execs_cons ?_
  refine h1.run C ρ0 ga g A ip R n a s₀ sh c fs _ J gd lv ls h ρ σ H ct hn S hx ?_
  unfold gSq at o
  cases e : f C.c a ls h with
  | nx a' ls' h' =>
    rw [e] at o
    exact fun n' s₀' ρ' σ' H' s' hn' S' => h2.run C ρ0 ga g A ip R n' a' s₀' s' c fs K J gd lv ls' h' ρ' σ' H' ct hn' S' hx o
  | bk a' ls' h' => rw [e] at o; exact o
  | ct a' ls' h' => rw [e] at o; exact o
  | rt a' w h' => rw [e] at o; exact o
  | exc c fs h' => rw [e] at o; exact o
  | bad => rw [e] at o; exact o

/-! ### if -/
def gIf (t : SB) (f f' : SGn) : SGn := fun c a ls h => match t ls h with
  | .ok true h1 => f c a ls h1
  | .ok false h1 => f' c a ls h1
  | .exc c fs h1 => .exc c fs h1
  | .bad => .bad
theorem GSt.step {C : GCon X.K} {ρ0 : List Addr} {ip : List (Addr × Obj)} {a : GA} {ls : Ls} {h h' : Heap} {ρ ρ' : List Addr} {σ : L2.St} {H H' : Hp} {s s' : Shared} (S : GSt X N C ρ0 ip a ls h ρ σ H s) {tp : List (Addr × Obj)} (hT : tp.map (·.1) = C.T) (ci : C.CI a ρ H tp) (ex : Ex ρ ρ' H H') (hr : HR X.K N ρ' h' H')
    (I : Inv X (tp ++ ip) σ H' s') : GSt X N C ρ0 ip a ls h' ρ' σ H' s' := ⟨S.ex.trans ex, S.lr.ex ex, hr, C.mst S.mo ex, tp, hT, C.st ci ex, I⟩
theorem test_in {C : GCon X.K} {ρ0 : List Addr} {ip : List (Addr × Obj)} {Kc : Nat → Shared → Flow → Shared → Prop} {t : SB} {f f' : SGn} {a : GA} {ls : Ls} {h : Heap} {ρ : List Addr} {σ : L2.St} {H : Hp} (ex0 : Ex ρ0 ρ X.H_0 H) (l : LR X.K ρ H ls σ) (hr : HR X.K N ρ h H)
    (o : GOut X N C ρ0 ip E Kc (gIf t f f' C.c a ls h)) : LT X.K N (fun c d _ H' => E c d H') t σ H fun b H' => ∃ ρ' h', t ls h = .ok b h' ∧ Ex ρ ρ' H H' ∧ HR X.K N ρ' h' H' := by
  refine ⟨ρ, ls, h, l, hr, ?_⟩
  unfold gIf at o
  cases e : t ls h with
  | ok b h' => exact fun ρ' H' ex r => ⟨ρ', h', rfl, ex, r⟩
  | exc c fs h' => rw [e] at o; exact fun ρ' H' d ex r x => o ρ' H' d (ex0.trans ex) r x
  | bad => rw [e] at o; exact o
theorem eg_if {test : PySem.Expr} {body orelse : List Stmt} {pos : Pos} {t : SB} {f f' : SGn} (ht : PT X test (LT X.K N (fun c d _ H' => E c d H') t)) (h1 : EGs X N E body f) (h2 : EGs X N E orelse f') : EG1 X N E (.If test body orelse pos) (gIf t f f') := by
  refine ⟨fun C ρ0 ga g A ip R n a s₀ sh c fs K J gd lv ls h ρ σ H ct hn S hx o => ?_⟩
  obtain ⟨tp, hT, ci, I⟩ := S.inv
  rw [exec_If]
  refine seg_at ?_
  refine seg_bind_wrap (wpAny_pure ?_)
  refine seg_bind_wrap ?_
  rw [ct.over]
  refine wpAny_mono (ht.run _ sh σ H _ I (test_in S.ex S.lr S.hr o)) (fun b s' hb => ?_) fun x s' hx' => hx n s₀ x s' hx'
  obtain ⟨H', I', ρ', h', e, ex, r⟩ := hb
  unfold gIf at o
  rw [e] at o
  have S' := S.step hT ci ex r I'
  cases b with
  | true => exact h1.run C ρ0 ga g A ip R n a s₀ s' c fs K J gd lv ls h' ρ' σ H' ct hn S' hx o
  | false => exact h2.run C ρ0 ga g A ip R n a s₀ s' c fs K J gd lv ls h' ρ' σ H' ct hn S' hx o

/-! ### yield -/
def gYi (f : SE) : SGn := fun c a ls h => if a.k < sizeLine then match f ls h with
  | .ok w h1 => match c a.ws w h1 with
    | some (ws', h2) => .nx ⟨a.k + 1, ws'⟩ ls h2
    | none => .bad
  | .exc c fs h1 => .exc c fs h1
  | .bad => .bad
  else .bad
theorem frs_old (ok : X.Ok) {b : Addr} (h : X.s_0.heap.objs.size ≤ b) : b ∉ X.fs := fun hb => by
  obtain ⟨_, o, ho, _⟩ := ok.funs.mem hb
  exact absurd (Nat.lt_of_lt_of_le (Heap.lt_size ho) h) (Nat.lt_irrefl _)
theorem eg_yi {e : PySem.Expr} {yp pos : Pos} {f : SE} (he : PE X e (LE X.K N (fun c d _ H' => E c d H') f)) (hco : X.env.scope.isCoroutine = false := by rfl) (hi : interactive X.env = false := by rfl) : EG1 X N E (.Expr (.Yield (some e) yp) pos) (gYi f) := by
  refine ⟨fun C ρ0 ga g A ip R n a s₀ sh c fs K J gd lv ls h ρ σ H ct hn S hx o => ?_⟩
  obtain ⟨tp, hT, ci, I⟩ := S.inv
  unfold gYi at o
  split at o
  case isFalse => exact o.elim
  rename_i hlt
  have pre : LE X.K N (fun c d _ H' => E c d H') f σ H fun v H' => ∃ ρ' w h', f ls h = .ok w h' ∧ Ex ρ ρ' H H' ∧ HR X.K N ρ' h' H' ∧ VR X.K ρ' H' w v := by
    refine ⟨ρ, ls, h, S.lr, S.hr, ?_⟩
    cases e : f ls h with
    | ok w h' => exact fun ρ' H' v ex r x => ⟨ρ', w, h', rfl, ex, r, x⟩
    | exc c fs h' => rw [e] at o; exact fun ρ' H' d ex r x => o ρ' H' d (S.ex.trans ex) r x
    | bad => rw [e] at o; exact o
  obtain ⟨n, rfl⟩ : ∃ m, n = m + 1 := ⟨n - 1, by omega⟩
  refine seg_Expr_Yield ct.split ct.gd ct.guard ?_ hco hi
  rw [ct.over]
  refine wpAny_mono (he.run _ sh σ H _ I pre) (fun v s' hv => ?_) fun x s' hx' => hx _ s₀ x s' hx'
  obtain ⟨x, H1, I1, rv, ρ1, w, h1, ef, ex1, r1, rx⟩ := hv
  intro kap hkap
  rw [ef] at o
  simp only at o
  split at o
  · rename_i ws' h2 ec
    obtain ⟨go, hgo, hgen⟩ := ct.gen
    obtain ⟨m, hns, hlook⟩ := I1.loc
    obtain ⟨ol, es, ep, hol, hod, hrest⟩ := id hns
    have hold : ∀ v, ol.data ≠ .cell v := fun v z => by rw [hod] at z; cases z
    refine ⟨a, w, x, h1, ρ1, H1, tp, (X.env.locals, ol) :: X.pn ++ ip, hn, rv, rx, r1, S.ex.trans ex1, hT, C.st ci ex1, I1.os, I1.bare, by have := I1.base; rw [ct.ex0] at this; exact this, I1.hok, I1.nolimit, hgen _ (I1.pin (ga, go) (List.mem_append_left _ hgo)).1,
      fun p hp => ?_, fun p hp => ?_, ⟨go, by simp [hgo]⟩, ws', h2, ec, fun s2 ρ2 H2 tp2 os2 b2 un2 hok2 ex2 r2 hT2 ci2 pin2 cell2 sv hsv => ?_⟩
    · rcases List.mem_append.mp hp with z | z
      · obtain ⟨q1, q2, q3, q4, q5⟩ := I1.pin p (List.mem_append_right _ (List.mem_append_left _ z))
        exact ⟨q1, q2, q4, q5⟩
      · rcases List.mem_cons.mp (show p ∈ (X.env.locals, ol) :: (X.pn ++ ip) by simpa using z) with z | z
        · subst z
          exact ⟨hol, I1.free, frs_old I1.ok I1.ok.above, hold⟩
        · have q : p ∈ X.pn ++ (tp ++ ip) := by
            rcases List.mem_append.mp z with z | z
            · exact List.mem_append_left _ z
            · exact List.mem_append_right _ (List.mem_append_right _ z)
          obtain ⟨q1, q2, q3, q4, q5⟩ := I1.pin p q
          exact ⟨q1, q2, q4, q5⟩
    · rcases List.mem_cons.mp (show p ∈ (X.env.locals, ol) :: (X.pn ++ ip) by simpa using hp) with z | z
      · subst z; exact ct.loc
      · exact ct.ip p z
    · suffices z : Seg (model X.prog X.w) A R (YE X.prog X.w X.K N C X.outer X.H_0 X.s_0 ρ0 ga g) n s2 c (K .next) fs s2 by
        rcases hsv with e | e <;> subst e <;> exact hkap _ s2 z
      refine o n s2 ρ2 σ H2 s2 (by show n + (a.k + 1) = _; omega) ⟨(S.ex.trans ex1).trans ex2, (S.lr.ex ex1).ex ex2, r2, C.mst (C.mst S.mo ex1) ex2, tp2, hT2, ci2, ?_⟩
      have hl2 : s2.heap.get? X.env.locals = some ol ∧ H2 X.env.locals = none := pin2 (X.env.locals, ol) (by simp)
      refine ⟨I1.ok, os2, b2, by rw [ct.ex0]; exact un2, ⟨m, ⟨ol, es, ep, hl2.1, hod, hrest⟩, fun i y v e1 e2 e3 => ?_⟩, fun y c e => (ct.cells y c e).elim, hl2.2, fun y c e => (ct.cells y c e).elim, fun p hp => ?_, hok2, I1.len⟩
      · obtain ⟨u, ru, lk⟩ := hlook i y v e1 e2 e3
        refine ⟨u, ru, ?_⟩
        rcases lk with lk | ⟨_, c, hc, _⟩
        · exact .inl lk
        · exact (ct.cells y c hc).elim
      · have fsT : ∀ t ∈ C.T, t ∉ X.fs := fun t ht => by
          rw [← hT] at ht
          obtain ⟨q, hq, rfl⟩ := List.mem_map.mp ht
          exact (I1.pin q (List.mem_append_right _ (List.mem_append_left _ hq))).2.2.2.1
        rcases List.mem_append.mp hp with z | z
        · obtain ⟨q1, q2, q3, q4, q5⟩ := I1.pin p (List.mem_append_left _ z)
          have := pin2 p (by simp [z])
          exact ⟨this.1, this.2, q3, q4, q5⟩
        · rcases List.mem_append.mp z with z | z
          · have := pin2 p (by simp [z])
            have ht : p.1 ∈ C.T := by rw [← hT2]; exact List.mem_map_of_mem z
            exact ⟨this.1, this.2, fun e => ct.loc (e ▸ ht), fsT _ ht, cell2 p z⟩
          · obtain ⟨q1, q2, q3, q4, q5⟩ := I1.pin p (List.mem_append_right _ (List.mem_append_right _ z))
            have := pin2 p (by simp [z])
            exact ⟨this.1, this.2, q3, q4, q5⟩
  · exact o.elim

/-! ### while -/
def gWh (t : SB) (f : SGn) : Nat → SGn
  | 0, _, _, _, _ => .bad
  | n + 1, c, a, ls, h => match t ls h with
    | .ok true h1 => match f c a ls h1 with
      | .nx a2 ls2 h2 => gWh t f n c a2 ls2 h2
      | .ct a2 ls2 h2 => gWh t f n c a2 ls2 h2
      | .bk a2 ls2 h2 => .nx a2 ls2 h2
      | r => r
    | .ok false h1 => .nx a ls h1
    | .exc c fs h1 => .exc c fs h1
    | .bad => .bad
theorem gct_loop {C : GCon X.K} {ga : Addr} {g : Nat} {ip : List (Addr × Obj)} {A : Around} {c c' : Code} {fs : List Frame} {gd : Bool → Bool} {k : Result → Sem PySem.Fin} {l kp : List Value} {p : Pos} (ct : GCt X C ga g ip A c fs gd) (hw : c'.weight = 0) (hu : c'.cUnits = 0) :
    GCt X C ga g ip A c' (.ret k none (gd false) l c p kp :: fs) id where
  ip := ct.ip
  loc := ct.loc
  gen := ct.gen
  cells := ct.cells
  ex0 := ct.ex0
  over := (over_loop hw hu).trans ct.over
  split := by
    show (splitAtGen fs).map _ = none
    rw [ct.split]; rfl
  guard := by
    show (gd false || fs.any Frame.guarded) = false
    rw [ct.gd, ct.guard]; rfl
  gd := rfl
theorem seg_back {A : Around} {R : GenEnd} {Y : Protocol} {c : Code} {fs : List Frame} {K : Flow → Sem PySem.Fin} {J : Value → Sem PySem.Fin} {gd : Bool → Bool} {lv : List Value → List Value} {n : Nat} {s₀ s : Shared} {e : Value} (ov : A.over c fs = X.A)
    (k : ∀ n s₀ e s, X.xe e s → Seg (model X.prog X.w) A R Y n s₀ c (J e) fs s) (h : cameBackBy (model X.prog X.w) X.A X.env X.xe e s) :
    Seg (model X.prog X.w) A R Y n s₀ c (((Sem.raise e : Sem Flow).onRaise (cameBack X.env)).wrap K J gd lv) fs s := by
  show Seg _ _ _ _ _ _ _ (((cameBack X.env e).bind fun _ => (Sem.raise e : Sem Flow)).wrap K J gd lv) _ _
  rw [Sem.bind_eq_wrap, Sem.wrap_wrap]
  refine seg_wrap ?_
  rw [ov]
  exact wpAny_mono h (fun _ s' hx => k n s₀ e s' hx) fun x s' hx => k n s₀ x s' hx
theorem eg_wh {test : PySem.Expr} {body : List Stmt} {pos : Pos} {t : SB} {f : SGn} (m : Nat) (hp : PassesOwn (model X.prog X.w) X.A X.env X.xe) (ht : PT X test (LT X.K N (fun c d _ H' => E c d H') t)) (hb : EGs X N E body f) : EG1 X N E (.While test body [] pos) (gWh t f m) := by
  refine ⟨fun C ρ0 ga g A ip R n a s₀ sh c fs K J gd lv ls h ρ σ H ct hn S hx o => ?_⟩
  refine seg_While fun p => ?_
  have gl := fun (kk : Result → Sem PySem.Fin) => gct_loop (k := kk) (c' := .whileLoop test body [] X.env) (l := lv []) (kp := []) (p := p) ct rfl rfl
  have loop : ∀ (m n : Nat) (a : GA) (s₀ s : Shared) (ls : Ls) (h : Heap) (ρ : List Addr) (σ : L2.St) (H : Hp), n + a.k = sizeLine → GSt X N C ρ0 ip a ls h ρ σ H s →
      GOut X N C ρ0 ip E (fun n s₀ f s => Seg (model X.prog X.w) A R (YE X.prog X.w X.K N C X.outer X.H_0 X.s_0 ρ0 ga g) n s₀ c (K f) fs s) (gWh t f m C.c a ls h) →
      Seg (model X.prog X.w) A R (YE X.prog X.w X.K N C X.outer X.H_0 X.s_0 ρ0 ga g) n s₀ (.whileLoop test body [] X.env) ((model X.prog X.w).den (.whileLoop test body [] X.env))
        (.ret (fun r => ((match r with | .ok f => (.pure f : Sem Flow) | .error e => .raise e).onRaise (cameBack X.env)).wrap K J gd lv) none (gd false) (lv []) c p [] :: fs) s := by
    intro m
    induction m with
    | zero => intro n a s₀ s ls h ρ σ H hn S o; exact o.elim
    | succ m ih =>
      intro n a s₀ s ls h ρ σ H hn S o
      have ee : ∀ (n : Nat) (s₀ : Shared) (x : Value) (s' : Shared), X.xe x s' → Seg (model X.prog X.w) A R (YE X.prog X.w X.K N C X.outer X.H_0 X.s_0 ρ0 ga g) n s₀ (.whileLoop test body [] X.env)
          ((do noteFrame x X.env; theTreesLotGoes x : Sem Unit).wrap (fun _ => .raise x) .raise id id)
          (.ret (fun r => ((match r with | .ok f => (.pure f : Sem Flow) | .error e => .raise e).onRaise (cameBack X.env)).wrap K J gd lv) none (gd false) (lv []) c p [] :: fs) s' := fun n s₀ x s' hx' => by
        refine seg_wrap ?_
        rw [(gl _).over]
        refine wpAny_bind (wpAny_mono (hp x s' hx') (fun _ s'' hcb => wpAny_theTreesLotGoes ?_) fun y s'' hcb => ?_)
        · exact seg_leaf (.error x) (seg_back ct.over hx hcb)
        · exact seg_leaf (.error y) (seg_back ct.over hx hcb)
      refine seg_whileLoop ?_
      rw [(gl _).over]
      obtain ⟨tp, hT, ci, I⟩ := S.inv
      rw [gWh] at o
      have pre : LT X.K N (fun c d _ H' => E c d H') t σ H fun b H' => ∃ ρ' h', t ls h = .ok b h' ∧ Ex ρ ρ' H H' ∧ HR X.K N ρ' h' H' := by
        refine ⟨ρ, ls, h, S.lr, S.hr, ?_⟩
        cases e : t ls h with
        | ok b h' => exact fun ρ' H' ex r => ⟨ρ', h', rfl, ex, r⟩
        | exc c fs h' => rw [e] at o; exact fun ρ' H' d ex r x => o ρ' H' d (S.ex.trans ex) r x
        | bad => rw [e] at o; exact o
      refine wpAny_mono (ht.run _ s σ H _ I pre) (fun b s' hb' => ?_) fun x s' hx' => ee n s₀ x s' hx'
      obtain ⟨H', I', ρ', h', e, ex, r⟩ := hb'
      have S' := S.step hT ci ex r I'
      rw [e] at o
      cases b with
      | true =>
        rw [if_pos rfl]
        simp only at o
        refine hb.run C ρ0 ga g A ip R n a s₀ s' _ _ _ _ id id ls h' ρ' σ H' (gl _) hn S' ee ?_
        cases ef : f C.c a ls h' with
        | nx a2 ls2 h2 => rw [ef] at o; exact fun n2 s₀2 ρ2 σ2 H2 s2 hn2 S2 => seg_again rfl (ih n2 a2 s₀2 s2 ls2 h2 ρ2 σ2 H2 hn2 S2 o)
        | ct a2 ls2 h2 => rw [ef] at o; exact fun n2 s₀2 ρ2 σ2 H2 s2 hn2 S2 => seg_again rfl (ih n2 a2 s₀2 s2 ls2 h2 ρ2 σ2 H2 hn2 S2 o)
        | bk a2 ls2 h2 => rw [ef] at o; exact fun n2 s₀2 ρ2 σ2 H2 s2 hn2 S2 => seg_leaf (.ok .next) (o n2 s₀2 ρ2 σ2 H2 s2 hn2 S2)
        | rt a2 w h2 => rw [ef] at o; exact fun n2 s₀2 ls2 ρ2 σ2 H2 s2 v u hn2 S2 x2 r2 => seg_leaf (.ok (.ret u)) (o n2 s₀2 ls2 ρ2 σ2 H2 s2 v u hn2 S2 x2 r2)
        | exc c fs h2 => rw [ef] at o; exact o
        | bad => rw [ef] at o; exact o
      | false =>
        rw [if_neg Bool.false_ne_true]
        refine seg_execs_nil ?_
        exact seg_leaf (.ok .next) (o n s₀ ρ' σ H' s' hn S')
  exact loop m n a s₀ sh ls h ρ σ H hn S o
end

/-! ### defs -/
/-- a generator def as a function -/
def gFn (n m : Nat) (f : SGn) : Con → List W → Heap → GD := fun c ws h => if ws.length = n then match f c ⟨0, []⟩ (ws.map some ++ List.replicate (m - n) none) h with
  | .nx a _ h' => .ok a h'
  | .rt a .non h' => .ok a h'
  | .exc c fs h' => .exc c fs h'
  | _ => .bad
  else .bad
def GDok (K : PySem.W.Frag) (N : Nm) (ρ : List Addr) (H : Hp) (E : XK) : GD → Prop
  | .ok _ _ => True
  | .exc c fs h => ∀ ρ' H' d, Ex ρ ρ' H H' → HR K N ρ' h H' → XR K N ρ' H' fs d → E (.ref (N.ca c)) d H'
  | .bad => False
/-- the generator's end -/
def REE (P : Program) (w : World) (K : PySem.W.Frag) (N : Nm) (C : GCon K) (outer : List Env) (H0 : Hp) (sc : Shared) (ρ0 : List Addr) (E : XK) (ga : Addr) (g : Nat) (r : GD) : GenEnd := fun n _ r' s1 =>
  ((r' = .ok (.ret .none) ∨ r' = .ok .next) ∧ ∃ a h' ρ' H' tp, r = .ok a h' ∧ Ex ρ0 ρ' H0 H' ∧ HR K N ρ' h' H' ∧ tp.map (·.1) = C.T ∧ C.CI a ρ' H' tp ∧ n + a.k = sizeLine ∧ s1.os = sc.os ∧ AllBare s1.gens ∧ Un (frs outer) [] H0 H' sc.heap s1.heap ∧ HOk P w H' s1.heap ∧
    ∀ p ∈ tp, s1.heap.get? p.1 = some p.2 ∧ H' p.1 = none) ∨
  ∃ e, r' = .error e ∧ CX P w outer H0 sc E e s1 ∧ s1.heap.IsGen ga g
/-- a generator that has not begun -/
def GMadeE (P : Program) (w : World) (K : PySem.W.Frag) (N : Nm) (k : Nat) (outer : List Env) (H : Hp) (s : Shared) (ρ : List Addr) (h : Heap) (ws : List W) (F : Con → List W → Heap → GD) (u : Value) (s' : Shared) : Prop :=
  ∃ (ga : Addr) (g : Nat) (c : Code), u = .ref ga ∧ s.heap.objs.size ≤ ga ∧ ga < s'.heap.objs.size ∧ s'.heap.IsGen ga g ∧ s'.gens[g]? = some (.fresh c) ∧ s'.os = s.os ∧ AllBare s'.gens ∧ s'.heap.NoLimit ∧ (∀ b o, s.heap.get? b = some o → s'.heap.get? b = some o) ∧
    ∀ (A : Around) (C : GCon K) (E : XK) (s2 : Shared) (tp : List (Addr × Obj)), Room k A → A.guards = some [] → A.frames = some outer → (∀ t ∈ C.T, s'.heap.objs.size ≤ t) → (∀ b o, s'.heap.get? b = some o → s2.heap.get? b = some o) → tp.map (·.1) = C.T →
      (∀ p ∈ tp, s2.heap.get? p.1 = some p.2 ∧ ∀ v, p.2.data ≠ .cell v) → C.CI ⟨0, []⟩ ρ H tp → s2.os = s.os → AllBare s2.gens → GDok K N ρ H E (F C.c ws h) →
      Seg (model P w) A (REE P w K N C outer H s ρ E ga g (F C.c ws h)) (YE P w K N C outer H s ρ ga g) sizeLine s2 c ((model P w).den c) [] s2
/-- a generator def's promise -/
structure GFnE (P : Program) (w : World) (K : PySem.W.Frag) (mg : Str → Option Value) (base : PySem.Heap) (N : Nm) (k : Nat) (f : Addr) (fd : FuncData) (ps : List Str) (F : Con → List W → Heap → GD) : Prop where
  run : ∀ (A : Around) (outer : List Env) (s : Shared) (H : Hp) (args : Args) (us : List Value) (vs : List V) (ρ : List Addr) (ws : List W) (h : Heap), Room k A → Env0 P w K mg base A outer s H → ws.length = ps.length → BindsTo s fd args (ps.zip us) → Vals vs us → VRs K ρ H ws vs → HR K N ρ h H →
    codeAny (model P w) A (.call (.ref f) args) (fun r s' => match r with | .ok (.ret u) => GMadeE P w K N k outer H s ρ h ws F u s' | _ => False) s
/-- the body at each entry -/
def GBodyOk (P : Program) (w : World) (K : PySem.W.Frag) (mg : Str → Option Value) (base : PySem.Heap) (Nn : Nm) (N : List Str) (qual : Str) (scope : Scope) (body : List Stmt) (f : Addr) (k : Nat) (g : SGn) : Prop :=
  ∀ (cdv : Value) (A : Around) (outer : List Env) (st : Shared) (H : Hp) (E : XK) (pn : List (Addr × Obj)), Room k (A.deeper (envOfC qual scope st.heap.objs.size f cdv)) → A.guards = some [] →
    EGs (gcxOf P w K mg base N qual scope f cdv A outer st H E pn) Nn E body g
theorem no_cells {names : List (Str × NameKind)} (h : ∀ y ∈ names, y.2 ≠ .cell) {hp : PySem.Heap} {x : Str} {c : Addr} : (cellsFrom (hp.objs.size + 1) names []).lookup x ≠ some c := fun e => by
  have m := PySem.mem_of_lookup e
  rw [← Heap.size_push hp { cls := .type "dict", data := .dict #[] }] at m
  rcases cells_mem m with z | ⟨z, _⟩
  · cases z
  · exact h _ z rfl
theorem seg_weak {M : Model} {A : Around} {R R' : GenEnd} {Y Y' : Protocol} (hR : ∀ n s₀ r s, R n s₀ r s → R' n s₀ r s) (hY : ∀ n s₀ v s kap kap', (∀ r s', kap r s' → kap' r s') → Y n s₀ v s kap → Y' n s₀ v s kap') (n : Nat) {s₀ : Shared} {c : Code} {t : Sem PySem.Fin} {fs : List Frame} {s : Shared}
    (h : Seg M A R Y n s₀ c t fs s) : Seg M A R' Y' n s₀ c t fs s := seg_imp hR hY n h
section
variable {P : Program} {w : World} {K : PySem.W.Frag} {mg : Str → Option Value} {base : PySem.Heap} {x qual : Str} {params : Arguments} {body : List Stmt} {scope : Scope} {dvs : List V} {kws : List (Str × V)} {f : Addr} {fd : FuncData} {N ps : List Str} {k : Nat} {Nn : Nm} {gf : SGn}
theorem g_fn (F : FunD K x qual params body scope dvs kws f fd) (S : GScope N ps scope) (hnc : ∀ y ∈ scope.names, y.2 ≠ .cell) (hb : GBodyOk P w K mg base Nn N qual scope body f k gf) : GFnE P w K mg base Nn (k + 1) f fd ps (gFn ps.length N.length gf) := by
  obtain ⟨oc, od, dV, kV, doc, pm, an, cdv, ct, osl, rfl, lk, hcd, _, _⟩ := F.ex
  have hpl : ps.length ≤ N.length := by have := congrArg List.length S.pre; rw [List.length_take] at this; omega
  refine ⟨fun A outer s H args us vs ρ ws h hr e0 hlw hB r rw_ hh => ?_⟩
  have hl : vs.length = ps.length := by rw [← rw_.length, hlw]
  have KX : K.In s.heap := e0.mod.kin.keeps fun b o e => (e0.bs b o e).1
  have lim : s.heap.NoLimit := e0.mod.nolimit.keeps fun b o e => (e0.bs b o e).1
  have hkind : ∀ y ∈ ps.zip us, scope.names.lookup y.1 = some .local ∨ (scope.names.lookup y.1 = some .cell ∧ ((cellsFrom (s.heap.objs.size + 1) scope.names []).lookup y.1).isSome = true) := fun ⟨n, v⟩ hy => by
    rcases S.par n (List.of_mem_zip hy).1 with q | q
    · exact .inl q
    · exact .inr ⟨q, PySem.W.cellsFrom_some _ _ _ (.inl q)⟩
  refine codeAny_call_generator hr.depth (KX _ _ lk) rfl S.co S.gen rfl (PySem.W.codeRec_of KX hcd) (hB _ _ _ _ ?_)
  refine wpAny_newFunctionEnv_cells S.kind hkind fun env he s1 x => ?_
  subst he
  have lim1 : s1.heap.NoLimit := lim.keeps x.toInCall.keep
  refine ⟨lim1, ?_⟩
  obtain ⟨h1, tk, es1, hk1⟩ := x.done
  have os1 : s1.os = s.os := by rw [es1]
  have gen1 : s1.gens = s.gens := by rw [es1]
  have lt1 : s.heap.objs.size < s1.heap.objs.size := x.toInCall.ns.lt
  have sz1 : s.heap.objs.size ≤ s1.heap.objs.size := Nat.le_of_lt lt1
  have kp1 : ∀ b o, s.heap.get? b = some o → s1.heap.get? b = some o := x.toInCall.keep
  have main : ∀ (go : Obj) (nm qn : Value) (tk2 : Nat), go.cls = .type "generator" → go.data = .fields #[.int s1.gens.size 0, nm, qn] → go.slots = #[] → (∀ h : PySem.Heap, (h.push go).get? h.objs.size = some go) →
      GMadeE P w K Nn (k + 1) outer H s ρ h ws (gFn ps.length N.length gf) (.ref s1.heap.objs.size) { s1 with gens := s1.gens.push (.fresh (.func body (envOfC qual scope s.heap.objs.size f cdv))), toks := tk2, heap := s1.heap.push go } := by
    intro go nm qn tk2 hgc hgd0 hgs hgp
    have hgen : ∀ h : PySem.Heap, h.get? s1.heap.objs.size = some go → h.IsGen s1.heap.objs.size s1.gens.size := fun h e => ⟨go, nm, qn, e, hgc, hgd0, hgs⟩
    have hpushed : (s1.heap.push go).get? s1.heap.objs.size = some go := hgp _
    refine ⟨s1.heap.objs.size, s1.gens.size, _, rfl, sz1, ?_, hgen _ hpushed, Array.getElem?_push_size .., os1, ?_, lim1.keeps fun b o e => Heap.get?_push_of_some _ e, fun b o e => Heap.get?_push_of_some _ (kp1 b o e), ?_⟩
    · show _ < (s1.heap.push _).objs.size
      rw [Heap.size_push]; exact Nat.lt_succ_self _
    · exact AllBare.push (by rw [gen1]; exact e0.bare) rfl
    intro Aw C E s2 tp hrw hgw hfr hT hk2 htp hpin ci hos hba gok
    have e0w : Env0 P w K mg base Aw outer s H := ⟨hfr, e0.mod, e0.bs, e0.bsz, e0.funs, e0.frf, e0.hok, e0.bare⟩
    have ht := hb cdv Aw outer s H E [(s1.heap.objs.size, go)] (hrw.deeper _) hgw
    have I1 : Inv (gcxOf P w K mg base N qual scope f cdv Aw outer s H E []) [] (L2.start N vs) H s1 := inv_startG S hrw.hd e0w hl r x
    have kp2 : ∀ b o, s1.heap.get? b = some o → s2.heap.get? b = some o := fun b o e => hk2 b o (Heap.get?_push_of_some _ e)
    have I2 : Inv (gcxOf P w K mg base N qual scope f cdv Aw outer s H E []) [] (L2.start N vs) H s2 :=
      I1.call' (ch := []) (hos.trans os1.symm) (Un.kept kp2) (I1.hok.kept kp2) hba fun b z => by simp at z
    have hTz : ∀ t ∈ C.T, s1.heap.objs.size < t := fun t ht => by
      have h0 : (s1.heap.push go).objs.size ≤ t := hT t ht
      rw [Heap.size_push] at h0
      exact h0
    have hea : s2.heap.get? s1.heap.objs.size = some go := hk2 s1.heap.objs.size go hpushed
    have hgd : ∀ v, go.data ≠ .cell v := fun v q => by rw [hgd0] at q; cases q
    have young : ∀ b, s1.heap.objs.size ≤ b → H b = none ∧ b ≠ s.heap.objs.size ∧ b ∉ frs outer := fun b hb =>
      ⟨I1.hok.fresh hb, Nat.ne_of_gt (Nat.lt_of_lt_of_le lt1 hb), I1.nofs hb⟩
    have I3 : Inv (gcxOf P w K mg base N qual scope f cdv Aw outer s H E [(s1.heap.objs.size, go)]) (tp ++ []) (L2.start N vs) H s2 := Inv.pinnedG I2 fun p hp => by
      rw [List.append_nil] at hp
      rcases List.mem_append.mp hp with z | z
      · rw [List.mem_singleton.mp z]
        obtain ⟨y1, y2, y3⟩ := young s1.heap.objs.size (Nat.le_refl _)
        exact ⟨hea, y1, y2, y3, hgd⟩
      · have hm : p.1 ∈ C.T := by rw [← htp]; exact List.mem_map_of_mem z
        obtain ⟨y1, y2, y3⟩ := young p.1 (Nat.le_of_lt (hTz _ hm))
        exact ⟨(hpin p z).1, y1, y2, y3, (hpin p z).2⟩
    let C0 : GCon K := { T := C.T, c := C.c, CI := C.CI, st := C.st }
    have S0 : GSt (gcxOf P w K mg base N qual scope f cdv Aw outer s H E [(s1.heap.objs.size, go)]) Nn C0 ρ [] ⟨0, []⟩ (ws.map some ++ List.replicate (N.length - ps.length) none) h ρ (L2.start N vs) H s2 :=
      ⟨Ex.refl _ _, by
        have := lr_start (K := K) (ρ := ρ) (H := H) (N.length - ps.length) rw_
        rw [show L2.start N vs = vs.map some ++ List.replicate (N.length - ps.length) none by unfold L2.start; rw [hl]]
        exact this, hh, trivial, tp, htp, ci, I3⟩
    refine seg_func ?_
    refine ht.run C0 ρ s1.heap.objs.size s1.gens.size Aw [] _ sizeLine ⟨0, []⟩ s2 s2 _ [] _ _ id id _ h ρ _ H ⟨fun p hp => ?_, fun z => ?_, ⟨go, List.mem_singleton.mpr rfl, hgen⟩, fun x c => no_cells hnc, rfl, over_func, rfl, rfl, rfl⟩ (Nat.add_zero _) S0 (fun n s₀ e s' hx => ?_) ?_
    · rw [List.append_nil] at hp
      rw [List.mem_singleton.mp hp]
      exact fun z => Nat.lt_irrefl _ (hTz _ z)
    · exact Nat.lt_irrefl _ (Nat.lt_trans lt1 (hTz _ z))
    · refine seg_wrap ?_
      rw [over_func]
      refine wpAny_mono (show wpAny (model P w) (Aw.deeper (envOfC qual scope s.heap.objs.size f cdv)) (leaving (envOfC qual scope s.heap.objs.size f cdv) e) (fun _ s'' => CX P w outer H s E e s'' ∧ ∀ p ∈ [(s1.heap.objs.size, go)], s''.heap.get? p.1 = some p.2) (fun _ _ => False) s' from hx) (fun _ s'' q => ?_) fun _ s'' q => q.elim
      exact seg_end (.error e) (.inr ⟨e, rfl, q.1, hgen _ (q.2 (s1.heap.objs.size, go) (List.mem_singleton.mpr rfl))⟩)
    · have fin : ∀ {a : GA} {ls' : Ls} {h' : Heap} {n : Nat} {s₀ s' : Shared} {ρ' : List Addr} {σ' : L2.St} {H' : Hp}, gFn ps.length N.length gf C.c ws h = .ok a h' → n + a.k = sizeLine → GSt (gcxOf P w K mg base N qual scope f cdv Aw outer s H E [(s1.heap.objs.size, go)]) Nn C0 ρ [] a ls' h' ρ' σ' H' s' →
          REE P w K Nn C outer H s ρ E s1.heap.objs.size s1.gens.size (gFn ps.length N.length gf C.c ws h) n s₀ (.ok (.ret .none)) s' := fun {a ls' h' n s₀ s' ρ' σ' H'} e hn S' => by
        obtain ⟨q1, q2, q3, _, tp', q4, q5, J⟩ := S'
        exact .inl ⟨.inl rfl, a, h', ρ', H', tp', e, q1, q3, q4, q5, hn, J.os, J.bare, J.base, J.hok, fun p hp =>
          have z := J.pin p (List.mem_append_right _ (List.mem_append_left _ hp))
          ⟨z.1, z.2.1⟩⟩
      cases ef : gf C.c ⟨0, []⟩ (ws.map some ++ List.replicate (N.length - ps.length) none) h with
      | nx a ls' h' =>
        have e : gFn ps.length N.length gf C.c ws h = .ok a h' := by unfold gFn; rw [if_pos hlw, ef]
        exact fun n s₀ ρ' σ' H' s' hn S' => seg_end (.ok (.ret .none)) (fin e hn S')
      | rt a wv h' =>
        cases wv with
        | non =>
          have e : gFn ps.length N.length gf C.c ws h = .ok a h' := by unfold gFn; rw [if_pos hlw, ef]
          intro n s₀ ls' ρ' σ' H' s' v u hn S' xv rv
          cases xv
          obtain rfl : u = Value.none := rv
          exact seg_end (.ok (.ret .none)) (fin e hn S')
        | _ => exact (by unfold gFn at gok; rw [if_pos hlw, ef] at gok; exact gok.elim)
      | exc c fs h' => unfold gFn at gok; rw [if_pos hlw, ef] at gok; exact gok
      | _ => exact (by unfold gFn at gok; rw [if_pos hlw, ef] at gok; exact gok.elim)
  exact main _ _ _ _ rfl rfl rfl fun h => Heap.get?_push_size _ rfl
end

/-! ### calls of generator defs -/
/-- e's value is a generator that has not begun -/
structure PGe (X : Cx) (N : Nm) (Wx : WX) (k : Nat) (e : PySem.Expr) (G : Con → Ls → Heap → GD) : Prop where
  run : ∀ (pins : List (Addr × Obj)) (s : Shared) (σ : L2.St) (H : Hp) (ρ : List Addr) (ls : Ls) (h : Heap) (c : Con), Inv X pins σ H s → LR X.K ρ H ls σ → HR X.K N ρ h H → G c ls h ≠ .bad →
    (∀ cl fs h', G c ls h = .exc cl fs h' → ∀ ρ' H' d, Ex ρ ρ' H H' → HR X.K N ρ' h' H' → XR X.K N ρ' H' fs d → Wx (.ref (N.ca cl)) d σ H') →
    wpAny (model X.prog X.w) X.A (eval e X.env) (fun u s' => ∃ sc ρ1 ws h1 H1 F, Inv X pins σ H1 sc ∧ Ex ρ ρ1 H H1 ∧ HR X.K N ρ1 h1 H1 ∧ G c ls h = F c ws h1 ∧ GMadeE X.prog X.w X.K N k X.stack H1 sc ρ1 h1 ws F u s') X.xe s
/-- g(.., k = ..) -/
def gCall (G : Con → List W → List W → Heap → GD) (n m : Nat) (gs hs : SEs) : Con → Ls → Heap → GD := fun c ls h => match gs ls h with
  | .ok xs h1 => match hs ls h1 with
    | .ok ys h2 => if xs.length = n ∧ ys.length = m then G c xs ys h2 else .bad
    | .exc c fs h2 => .exc c fs h2
    | .bad => .bad
  | .exc c fs h1 => .exc c fs h1
  | .bad => .bad
/-- a generator def of the text -/
structure GdOk (P : Program) (w : World) (K : PySem.W.Frag) (mg : Str → Option Value) (base : PySem.Heap) (N : Nm) (k : Nat) (f : Addr) (x q : Str) (st : Stmt) (ps : List Str) (F : Con → List W → Heap → GD) : Prop where
  ex : ∃ fd, FunD K x q (defArgs st) (defBody st) (defScope st) [] [] f fd ∧ GFnE P w K mg base N k f fd ps F
theorem GMadeE.mono {P : Program} {w : World} {K : PySem.W.Frag} {N : Nm} {j k : Nat} {outer : List Env} {H : Hp} {s : Shared} {ρ : List Addr} {h : Heap} {ws : List W} {F : Con → List W → Heap → GD} {u : Value} {s' : Shared} (jk : j ≤ k) (G : GMadeE P w K N j outer H s ρ h ws F u s') : GMadeE P w K N k outer H s ρ h ws F u s' := by
  obtain ⟨ga, g, c, h1, h2, h3, h4, h5, h6, h7, h8, h9, h10⟩ := G
  exact ⟨ga, g, c, h1, h2, h3, h4, h5, h6, h7, h8, h9, fun A C E s2 tp hr => h10 A C E s2 tp (hr.mono jk)⟩
theorem GdOk.mono {P : Program} {w : World} {K : PySem.W.Frag} {mg : Str → Option Value} {base : PySem.Heap} {N : Nm} {j k : Nat} {f : Addr} {x q : Str} {st : Stmt} {ps : List Str} {F : Con → List W → Heap → GD} (D : GdOk P w K mg base N j f x q st ps F) (jk : j ≤ k) : GdOk P w K mg base N k f x q st ps F := by
  obtain ⟨fd, h1, h2⟩ := D.ex
  refine ⟨fd, h1, ⟨fun A outer s H args us vs ρ ws h hr e0 hl hB r rw_ hh => codeAny_mono (h2.run A outer s H args us vs ρ ws h (hr.mono jk) e0 hl hB r rw_ hh) fun r s' hq => ?_⟩⟩
  cases r with
  | error e => exact hq
  | ok fl => cases fl with
    | ret u => exact hq.mono jk
    | _ => exact hq
theorem GdOk.mk' {P : Program} {w : World} {K : PySem.W.Frag} {mg : Str → Option Value} {base : PySem.Heap} {N : Nm} {k : Nat} {f : Addr} {x q : Str} {st : Stmt} {ps Ns : List Str} {g : SGn} (D : FnAt K f x q st) (S : GScope Ns ps (defScope st)) (hnc : ∀ y ∈ (defScope st).names, y.2 ≠ .cell) (b : GBodyOk P w K mg base N Ns q (defScope st) (defBody st) f k g) :
    GdOk P w K mg base N (k + 1) f x q st ps (gFn ps.length Ns.length g) :=
  let ⟨fd, h⟩ := D
  ⟨fd, h, g_fn h S hnc b⟩
section
variable {X : Cx} {N : Nm} {Wx : WX} {pos p apos : Pos} {e a b o : PySem.Expr} {es : List PySem.Expr} {kws : List Keyword} {gs hs : SEs} {k n : Nat} {x q m : Str} {st : Stmt} {ps ks : List Str} {F : Con → List W → Heap → GD} {sel : List (Bool × Nat)} {f g : SE} {fa : Addr}
theorem ga_exc {X : Cx} {K : PySem.W.Frag} {N : Nm} {r : Rs} {ρ : List Addr} {H : Hp} {E : XK} (hb : r ≠ .bad) (he : ∀ c fs h', r = .exc c fs h' → ∀ ρ' H' d, Ex ρ ρ' H H' → HR K N ρ' h' H' → XR K N ρ' H' fs d → E (.ref (N.ca c)) d H') :
    Outs K N ρ H r (fun vs H' => ∃ ρ' ws h', r = .ok ws h' ∧ Ex ρ ρ' H H' ∧ HR K N ρ' h' H' ∧ VRs K ρ' H' ws vs) E := by
  cases r with
  | ok ws h' => exact fun ρ' H' vs ex r x => ⟨ρ', ws, h', rfl, ex, r, x⟩
  | exc c fs h' => exact fun ρ' H' d ex r x => he c fs h' rfl ρ' H' d ex r x
  | bad => exact (hb rfl).elim
theorem pge_call (hm : X.mg x = some (.ref fa)) (D : GdOk X.prog X.w X.K X.mg X.base N k fa x x st ps F) (bd : BdQ x x st ps n ks sel) (hr : Room k X.A) (hln : ∀ (xs ys : List W), xs.length = n → ys.length = ks.length → (pick sel xs ys).length = ps.length)
    (ha : PA X (e :: es) (LA X.K N Wx gs)) (hkw : PK X kws (LA X.K N Wx hs)) (hg : Gl X x := by rfl)
    (hall : (backToKw pos (keywordEach kws X.env)).all (·.1.isSome) = true := by rfl) (hks : (backToKw pos (keywordEach kws X.env)).filterMap (·.1) = ks := by rfl)
    (hdb : (x == ("__debug__" : Str)) = false := by decide) (he : starEach (e :: es) X.env = (false, eval e X.env) :: starEach es X.env := by rfl)
    (hpl : ((backTo pos (starEach (e :: es) X.env)).any (·.1) || (backToKw pos (keywordEach kws X.env)).any (·.1.isNone)) = false := by rfl) :
    PGe X N Wx k (.Call (.Name x p) (e :: es) kws pos) (gCall (fun c xs ys h => F c (pick sel xs ys) h) n ks.length gs hs) := by
  obtain ⟨fd, h2, h3⟩ := D.ex
  refine ⟨fun pins s σ H ρ ls h c I l hh nb ne => ?_⟩
  refine wpAny_Call_Name_kw (ld_glob I hg hm ?_ hdb)
  have pre : LA X.K N Wx gs σ H fun vs H1 => ∃ ρ1 xs h1, gs ls h = .ok xs h1 ∧ Ex ρ ρ1 H H1 ∧ HR X.K N ρ1 h1 H1 ∧ VRs X.K ρ1 H1 xs vs := by
    refine ⟨ρ, ls, h, l, hh, ga_exc (X := X) (fun z => ?_) fun cl fs h' z ρ' H' d => ?_⟩
    · exact nb (by unfold gCall; rw [z])
    · exact ne cl fs h' (by unfold gCall; rw [z]) ρ' H' d
  refine PySem.W.callWith_KW (h₀ := X.base) I.ok.mod.kin h2.kp hall (thn (ha.run pos pins s σ H _ I pre) fun us s1 ⟨vs, H1, I1, r, ρ1, xs, h1, e1, ex1, r1, rx⟩ => ?_) hpl he
  have pre2 : LA X.K N Wx hs σ H1 fun zs H2 => ∃ ρ2 ys h2, hs ls h1 = .ok ys h2 ∧ Ex ρ1 ρ2 H1 H2 ∧ HR X.K N ρ2 h2 H2 ∧ VRs X.K ρ2 H2 ys zs := by
    refine ⟨ρ1, ls, h1, l.ex ex1, r1, ga_exc (X := X) (fun z => ?_) fun cl fs h' z ρ' H' d ex => ?_⟩
    · exact nb (by unfold gCall; rw [e1]; simp only; rw [z])
    · exact ne cl fs h' (by unfold gCall; rw [e1]; simp only; rw [z]) ρ' H' d (ex1.trans ex)
  refine thn (hkw.run pos pins s1 σ H1 _ I1 pre2) fun ws s2 ⟨zs, H2, I2, rz, ρ2, ys, h2', e2, ex2, r2, ry⟩ => ⟨I2.kIn, ?_⟩
  rw [hks]
  have hnm : xs.length = n ∧ ys.length = ks.length := by
    have z := nb
    unfold gCall at z
    rw [e1] at z; simp only at z; rw [e2] at z; simp only at z
    split at z
    · assumption
    · exact (z rfl).elim
  obtain ⟨gg, b1, b2⟩ := FunD.kbq h2 bd
  have l1 : us.length = n := by rw [← r.length, ← rx.length, hnm.1]
  have l2 : ws.length = ks.length := by rw [← rz.length, ← ry.length, hnm.2]
  obtain ⟨os, z1, z2⟩ := b2 (rx.ex ex2) ry r rz l1 l2
  refine wpAny_call (codeAny_mono (h3.run X.A X.stack s2 H2 ⟨us, ks.zip ws⟩ (gg us ws) os ρ2 _ h2' hr I2.env0 (hln _ _ hnm.1 hnm.2) (b1 s2 us ws I2.kIn l1 l2) z2 z1 r2) fun r s' hq => ?_)
  cases r with
  | error e => exact hq.elim
  | ok fl => cases fl with
    | ret u => exact ⟨s2, ρ2, _, h2', H2, F, I2, ex1.trans ex2, r2, by unfold gCall; rw [e1]; simp only; rw [e2]; simp only; rw [if_pos hnm], hq⟩
    | _ => exact hq.elim

end
end Ev
set_option maxRecDepth 100000
set_option maxHeartbeats 1000000
/-! EvSwap: what runs while generators sleep leaves their entries alone, if it runs with entries that cannot be woken. -/
namespace Ev
open PySem L2 PyProof.Rows GenW
open Sem (wp)
theorem no_unsup {M : Model} {Γ : Ctx} {p : Pos} {m : String} {fs : List Frame} {s s' : Shared} {e : End} (h : Runs M Γ p (.unsupported m) fs s e s') : False := by
  generalize ht : (Sem.unsupported m : Sem PySem.Fin) = t at h
  induction h <;> first | (cases ht; done) | (subst ht; rename_i ih; exact ih rfl) | (subst ht; simp_all)
/-- an entry that cannot be woken -/
def Stk (x : GenState) : Prop := ∃ (kb : Resume → Sem PySem.Fin) (l : List Value) (c : Code) (p : Pos) (fs : List Frame) (cl : Bool), x = .suspended kb l c p fs cl ∧ ∀ r, ∃ m, kb r = .unsupported m
/-- entries put back -/
def rest (r : Nat → Option GenState) (s : Shared) : Shared := { s with gens := s.gens.mapIdx fun i x => (r i).getD x }
structure Cond (r : Nat → Option GenState) (s : Shared) : Prop where
  stk : ∀ i X, r i = some X → ∃ b, s.gens[i]? = some b ∧ Stk b ∧ X.seen = b.seen
  nog : ∀ i k l c p fs cl, s.gens[i]? = some (.suspended k l c p fs cl) → r i = none → splitAtGen fs = none
section
variable {r : Nat → Option GenState} {s : Shared} {g : Nat} {x : GenState}
theorem rest_get : (rest r s).gens[g]? = s.gens[g]?.map fun x => (r g).getD x := by
  show (s.gens.mapIdx _)[g]? = _
  rw [Array.getElem?_mapIdx]
theorem rest_at (h : s.gens[g]? = some x) (hr : r g = none) : (rest r s).gens[g]? = some x := by
  rw [rest_get, h, hr]; rfl
theorem rest_size : (rest r s).gens.size = s.gens.size := by
  show (s.gens.mapIdx _).size = _
  rw [Array.size_mapIdx]
theorem rest_set (hr : r g = none) : rest r (s.setGen g x) = (rest r s).setGen g x := by
  simp only [rest, Shared.setGen]
  congr 1
  apply Array.ext_getElem?
  intro i
  simp only [Array.getElem?_mapIdx, Array.getElem?_setIfInBounds, Array.size_mapIdx]
  by_cases h : g = i
  · subst h
    simp only [if_true, hr]
    split <;> simp
  · simp [h]
theorem set_look {i : Nat} {y : GenState} (h : (s.setGen g x).gens[i]? = some y) : (i = g ∧ y = x) ∨ (i ≠ g ∧ s.gens[i]? = some y) := by
  have h : (s.gens.setIfInBounds g x)[i]? = some y := h
  rw [Array.getElem?_setIfInBounds] at h
  by_cases z : g = i
  · subst z
    rw [if_pos rfl] at h
    split at h
    · cases h; exact .inl ⟨rfl, rfl⟩
    · cases h
  · rw [if_neg z] at h
    exact .inr ⟨Ne.symm z, h⟩
theorem set_ne {i : Nat} (h : i ≠ g) : (s.setGen g x).gens[i]? = s.gens[i]? := by
  show (s.gens.setIfInBounds g x)[i]? = _
  rw [Array.getElem?_setIfInBounds_ne (Ne.symm h)]
theorem Cond.set (c : Cond r s) (hr : r g = none) (hx : ∀ k l cc p fs cl, x = .suspended k l cc p fs cl → splitAtGen fs = none) : Cond r (s.setGen g x) where
  stk := fun i X e => by
    have z : i ≠ g := fun z => by subst z; rw [hr] at e; cases e
    obtain ⟨b, h1, h2⟩ := c.stk i X e
    exact ⟨b, by rw [set_ne z]; exact h1, h2⟩
  nog := fun i k l cc p fs cl e hi => by
    rcases set_look e with ⟨_, z⟩ | ⟨_, z⟩
    · exact hx _ _ _ _ _ _ z.symm
    · exact c.nog i k l cc p fs cl z hi
theorem lt_gens (h : s.gens[g]? = some x) : g < s.gens.size := (Array.getElem?_eq_some_iff.mp h).1
theorem Cond.none_of (c : Cond r s) (h : s.gens[g]? = some x) (hx : ¬ Stk x) : r g = none := by
  cases e : r g with
  | none => rfl
  | some X =>
    obtain ⟨b, h1, h2, _⟩ := c.stk g X e
    rw [h] at h1; cases h1
    exact (hx h2).elim
theorem Cond.out (c : Cond r s) (h : s.gens.size ≤ g) : r g = none := by
  cases e : r g with
  | none => rfl
  | some X =>
    obtain ⟨b, h1, _⟩ := c.stk g X e
    exact absurd (lt_gens h1) (by omega)
theorem Cond.push (c : Cond r s) (cc : Code) : Cond r { s with gens := s.gens.push (.fresh cc) } where
  stk := fun i X e => by
    obtain ⟨b, h1, h2⟩ := c.stk i X e
    have := lt_gens h1
    exact ⟨b, by show (s.gens.push _)[i]? = _; rw [Array.getElem?_push, if_neg (by omega)]; exact h1, h2⟩
  nog := fun i k l c' p fs cl e hi => by
    have e : (s.gens.push (.fresh cc))[i]? = _ := e
    rw [Array.getElem?_push] at e
    split at e
    · cases e
    · exact c.nog i k l c' p fs cl e hi
theorem rest_push (c : Cond r s) (cc : Code) : rest r { s with gens := s.gens.push (.fresh cc) } = { rest r s with gens := (rest r s).gens.push (.fresh cc) } := by
  have h0 := c.out (Nat.le_refl _)
  simp only [rest]
  congr 1
  apply Array.ext_getElem?
  intro i
  simp only [Array.getElem?_mapIdx, Array.getElem?_push, Array.size_mapIdx]
  split
  · rename_i h; subst h; simp [h0]
  · rfl
end
theorem no_stk {c : Code} : ¬ Stk (.fresh c) := fun ⟨_, _, _, _, _, _, e, _⟩ => by cases e
theorem no_stkR : ¬ Stk .running := fun ⟨_, _, _, _, _, _, e, _⟩ => by cases e
theorem no_stkF : ¬ Stk .finished := fun ⟨_, _, _, _, _, _, e, _⟩ => by cases e
theorem split_app : ∀ {a b : List Frame}, splitAtGen a = none → splitAtGen b = none → splitAtGen (a ++ b) = none
  | [], _, _, h => h
  | .ret .. :: a, b, h1, h2 => by
    simp only [splitAtGen, Option.map_eq_none_iff, List.cons_append] at h1 ⊢
    exact split_app h1 h2
  | .gen .. :: a, b, h1, h2 => by simp [splitAtGen] at h1
def sSplit (e : End) : Prop := ∀ v gg l k c p fs, e = .susp v gg l k c p fs → splitAtGen fs = none
theorem sSplit.gs {e : End} (h : sSplit e) : ∀ k l cc p fs cl, e.genState = .suspended k l cc p fs cl → splitAtGen fs = none := fun k l cc p fs cl e1 => by
  cases e with
  | ret r => cases e1
  | susp v g l' k' c' p' fs' => cases e1; exact h _ _ _ _ _ _ _ rfl
theorem runs_swap {M : Model} {Γ : Ctx} {p : Pos} {t : Sem PySem.Fin} {fs : List Frame} {s s' : Shared} {e : End} (h : Runs M Γ p t fs s e s') {r : Nat → Option GenState} :
    splitAtGen fs = none → Cond r s → Cond r s' ∧ sSplit e ∧ Runs M Γ p t fs (rest r s) e (rest r s') := by
  have rs : ∀ {x : Result}, sSplit (.ret x) := fun {x} v gg l k c p fs e => by cases e
  induction h with
  | done => intro hf hc; exact ⟨hc, rs, .done⟩
  | raise => intro hf hc; exact ⟨hc, rs, .raise⟩
  | again hq _ ih => intro hf hc; obtain ⟨a, b, c⟩ := ih rfl hc; exact ⟨a, b, .again hq c⟩
  | rule _ ih => intro hf hc; obtain ⟨a, b, c⟩ := ih rfl hc; exact ⟨a, b, .rule c⟩
  | «at» _ ih => intro hf hc; obtain ⟨a, b, c⟩ := ih rfl hc; exact ⟨a, b, .at c⟩
  | load ho _ ih => intro hf hc; obtain ⟨a, b, c⟩ := ih rfl hc; exact ⟨a, b, .load ho c⟩
  | update ho _ ih => intro hf hc; obtain ⟨a, b, c⟩ := ih rfl ⟨hc.stk, hc.nog⟩; exact ⟨a, b, .update ho c⟩
  | loadIfAlive _ ih => intro hf hc; obtain ⟨a, b, c⟩ := ih rfl hc; exact ⟨a, b, .loadIfAlive c⟩
  | point _ ih => intro hf hc; obtain ⟨a, b, c⟩ := ih rfl hc; exact ⟨a, b, .point c⟩
  | alloc _ ih => intro hf hc; obtain ⟨a, b, c⟩ := ih rfl ⟨hc.stk, hc.nog⟩; exact ⟨a, b, .alloc c⟩
  | fresh _ ih => intro hf hc; obtain ⟨a, b, c⟩ := ih rfl ⟨hc.stk, hc.nog⟩; exact ⟨a, b, .fresh c⟩
  | ask _ ih => intro hf hc; obtain ⟨a, b, c⟩ := ih rfl hc; exact ⟨a, b, .ask c⟩
  | choose hn _ ih => intro hf hc; obtain ⟨a, b, c⟩ := ih rfl ⟨hc.stk, hc.nog⟩; exact ⟨a, b, .choose hn c⟩
  | os _ ih => intro hf hc; obtain ⟨a, b, c⟩ := ih rfl ⟨hc.stk, hc.nog⟩; exact ⟨a, b, .os c⟩
  | handled _ ih => intro hf hc; obtain ⟨a, b, c⟩ := ih rfl hc; exact ⟨a, b, .handled c⟩
  | stack _ ih => intro hf hc; obtain ⟨a, b, c⟩ := ih rfl hc; exact ⟨a, b, .stack c⟩
  | thread _ ih => intro hf hc; obtain ⟨a, b, c⟩ := ih rfl hc; exact ⟨a, b, .thread c⟩
  | @genState g st Γ p k s e s' hs _ ih =>
    intro hf hc; obtain ⟨a, b, c⟩ := ih rfl hc
    refine ⟨a, b, ?_⟩
    cases hr : r g with
    | none => exact .genState (rest_at hs hr) c
    | some X =>
      obtain ⟨b', h1, h2, h3⟩ := hc.stk g X hr
      rw [hs] at h1; cases h1
      rw [← h3] at c
      exact .genState (by rw [rest_get, hs, hr]; rfl) c
  | newGen _ ih =>
    intro hf hc; obtain ⟨a, b, c⟩ := ih rfl (hc.push _)
    refine ⟨a, b, ?_⟩
    rw [rest_push hc] at c
    refine .newGen ?_
    rw [rest_size]
    exact c
  | call _ _ ih1 ih2 => intro hf hc; obtain ⟨a, _, c⟩ := ih1 rfl hc; obtain ⟨a2, b2, c2⟩ := ih2 rfl a; exact ⟨a2, b2, .call c c2⟩
  | callSusp _ ih =>
    intro hf hc; obtain ⟨a, b, c⟩ := ih rfl hc
    refine ⟨a, fun v gg l k cc p fs e => ?_, .callSusp c⟩
    cases e
    exact split_app (b _ _ _ _ _ _ _ rfl) rfl
  | yield => intro hf hc; exact ⟨hc, fun v gg l k cc p fs e => by cases e; rfl, .yield⟩
  | resumeFresh hs _ hq _ ih1 ih2 =>
    intro hf hc
    have hr := hc.none_of hs no_stk
    obtain ⟨a, b, c⟩ := ih1 rfl (hc.set hr fun _ _ _ _ _ _ e => by cases e)
    obtain ⟨a2, b2, c2⟩ := ih2 rfl (a.set hr b.gs)
    rw [rest_set hr] at c c2
    exact ⟨a2, b2, .resumeFresh (rest_at hs hr) c hq c2⟩
  | @resumeSuspended Γ p g r' l k s k₀ l₀ c₀ p₀ fs cl e₁ s₁ e s' hs hru hq _ ih1 ih2 =>
    intro hf hc
    have hr : r g = none := by
      cases e : r g with
      | none => rfl
      | some X =>
        obtain ⟨b', h1, ⟨kb, l, c, p, fs, cl, h2, h4⟩, h3⟩ := hc.stk g X e
        rw [hs] at h1; cases h1
        cases h2
        obtain ⟨m, em⟩ := h4 r'
        rw [em] at hru
        exact (no_unsup hru).elim
    obtain ⟨a, b, c⟩ := ih1 (hc.nog _ _ _ _ _ _ _ hs hr) (hc.set hr fun _ _ _ _ _ _ e => by cases e)
    obtain ⟨a2, b2, c2⟩ := ih2 rfl (a.set hr b.gs)
    rw [rest_set hr] at c c2
    exact ⟨a2, b2, .resumeSuspended (rest_at hs hr) c hq c2⟩
  | resumeJustStarted hs hv _ ih =>
    intro hf hc; obtain ⟨a, b, c⟩ := ih rfl hc
    exact ⟨a, b, .resumeJustStarted (rest_at hs (hc.none_of hs no_stk)) hv c⟩
  | resumeThrowFresh hs _ ih =>
    intro hf hc
    have hr := hc.none_of hs no_stk
    obtain ⟨a, b, c⟩ := ih rfl (hc.set hr fun _ _ _ _ _ _ e => by cases e)
    rw [rest_set hr] at c
    exact ⟨a, b, .resumeThrowFresh (rest_at hs hr) c⟩
  | resumeRunning hs _ ih => intro hf hc; obtain ⟨a, b, c⟩ := ih rfl hc; exact ⟨a, b, .resumeRunning (rest_at hs (hc.none_of hs no_stkR)) c⟩
  | resumeFinished hs _ ih => intro hf hc; obtain ⟨a, b, c⟩ := ih rfl hc; exact ⟨a, b, .resumeFinished (rest_at hs (hc.none_of hs no_stkF)) c⟩
  | segRet _ _ ih1 ih2 =>
    intro hf hc
    obtain ⟨a, _, c⟩ := ih1 rfl hc
    obtain ⟨a2, b2, c2⟩ := ih2 (by simpa [splitAtGen] using hf) a
    exact ⟨a2, b2, .segRet c c2⟩
  | segGen => intro hf hc; simp [splitAtGen] at hf
  | segSuspOut hsp _ ih =>
    intro hf hc; obtain ⟨a, b, c⟩ := ih rfl hc
    refine ⟨a, fun v gg l k cc p fs e => ?_, .segSuspOut hsp c⟩
    cases e
    exact split_app (b _ _ _ _ _ _ _ rfl) hsp
  | segSuspGen hsp => intro hf hc; rw [hf] at hsp; cases hsp

theorem wp_swap {α : Type} {M : Model} {Γ : Ctx} {r : Nat → Option GenState} (t : Sem α) : ∀ (Q : α → Pos → Shared → Prop) (E : Value → Pos → Shared → Prop) (p : Pos) (s : Shared), Cond r s → wp M Γ t Q E p s →
    wp M Γ t (fun a p' s' => ∃ z, Cond r z ∧ Q a p' z ∧ s' = rest r z) (fun e p' s' => ∃ z, Cond r z ∧ E e p' z ∧ s' = rest r z) p (rest r s) := by
  induction t with
  | pure a => intro Q E p s hc h; exact ⟨s, hc, h, rfl⟩
  | raise e => intro Q E p s hc h; exact ⟨s, hc, h, rfl⟩
  | unsupported _ => intro Q E p s _ h; exact h
  | finish _ => intro Q E p s _ h; exact h
  | rule _ k ih => intro Q E p s hc h; exact ih () Q E p s hc h
  | «at» p' k ih => intro Q E p s hc h; exact ih () Q E p' s hc h
  | load a _ k ih => intro Q E p s hc h; obtain ⟨o, ho, h⟩ := h; exact ⟨o, ho, ih o Q E p s hc h⟩
  | update a _ f k ih => intro Q E p s hc h; exact ⟨h.1, ih () Q E p { s with heap := s.heap.update a f } ⟨hc.stk, hc.nog⟩ h.2⟩
  | loadIfAlive a k ih => intro Q E p s hc h; exact ih _ Q E p s hc h
  | point _ k ih => intro Q E p s hc h; exact ih () Q E p s hc h
  | register _ _ => intro Q E p s _ h; exact h
  | alloc o k ih => intro Q E p s hc h; exact ih _ Q E p { s with heap := s.heap.push o } ⟨hc.stk, hc.nog⟩ h
  | fresh k ih => intro Q E p s hc h; exact ih _ Q E p { s with toks := s.toks + 1 } ⟨hc.stk, hc.nog⟩ h
  | ask k ih => intro Q E p s hc h; exact ih _ Q E p s hc h
  | choose src m k ih => intro Q E p s hc h; exact ⟨h.1, ih _ Q E p { s with drawn := s.drawn.bump src } ⟨hc.stk, hc.nog⟩ h.2⟩
  | os q _ k ih => intro Q E p s hc h; exact ih _ Q E p { s with os := (Os.step s.os q).1 } ⟨hc.stk, hc.nog⟩ h
  | call c hd _ _ k ih =>
    intro Q E p s hc h
    obtain ⟨x, s', hr, h⟩ := h
    obtain ⟨a, _, b⟩ := runs_swap hr rfl hc
    exact ⟨x, rest r s', b, ih x Q E p s' a h⟩
  | handled own k ih => intro Q E p s hc h; exact ih _ Q E p s hc h
  | genState g k ih =>
    intro Q E p s hc h
    obtain ⟨st, hs, h⟩ := h
    cases hr : r g with
    | none => exact ⟨st, rest_at hs hr, ih _ Q E p s hc h⟩
    | some X =>
      obtain ⟨b, h1, h2, h3⟩ := hc.stk g X hr
      rw [hs] at h1; cases h1
      refine ⟨X, by rw [rest_get, hs, hr]; rfl, ?_⟩
      have := ih _ Q E p s hc h
      rw [← h3] at this
      exact this
  | newGen c k ih =>
    intro Q E p s hc h
    have := ih _ Q E p { s with gens := s.gens.push (.fresh c) } (hc.push c) h
    rw [rest_push hc] at this
    show wp M Γ (k (rest r s).gens.size) _ _ p _
    rw [rest_size]
    exact this
  | resume g rr _ k ih =>
    intro Q E p s hc h
    obtain ⟨res, s', hw, h⟩ := h
    unfold Wakes at hw
    cases hg : s.gens[g]? with
    | none => rw [hg] at hw; exact hw.elim
    | some x =>
      rw [hg] at hw
      have key : Cond r s' ∧ Wakes M Γ p g rr (rest r s) res (rest r s') := by
        unfold Wakes
        cases x with
        | fresh c =>
          have hr := hc.none_of hg no_stk
          rw [rest_at hg hr]
          cases rr with
          | send v =>
            cases v with
            | none =>
              obtain ⟨e₁, s₁, h1, h2, h3, rfl⟩ := hw
              obtain ⟨a, b, c'⟩ := runs_swap h1 rfl (hc.set hr fun _ _ _ _ _ _ e => by cases e)
              rw [rest_set hr] at c'
              exact ⟨a.set hr b.gs, e₁, rest r s₁, c', h2, h3, rest_set hr⟩
            | _ => obtain ⟨h1, rfl⟩ := hw; exact ⟨hc, h1, rfl⟩
          | throw v => obtain ⟨h1, rfl⟩ := hw; exact ⟨hc.set hr (fun _ _ _ _ _ _ e => by cases e), h1, rest_set hr⟩
        | suspended k₀ l₀ c₀ p₀ fs cl =>
          have hr : r g = none := by
            cases e : r g with
            | none => rfl
            | some X =>
              obtain ⟨b', h1, ⟨kb, l, c, p, fs, cl, h2, h4⟩, h3⟩ := hc.stk g X e
              rw [hg] at h1; cases h1
              cases h2
              obtain ⟨m, em⟩ := h4 rr
              obtain ⟨e₁, s₁, h1, _⟩ := hw
              rw [em] at h1
              exact (no_unsup h1).elim
          rw [rest_at hg hr]
          obtain ⟨e₁, s₁, h1, h2, h3, rfl⟩ := hw
          obtain ⟨a, b, c'⟩ := runs_swap h1 (hc.nog _ _ _ _ _ _ _ hg hr) (hc.set hr fun _ _ _ _ _ _ e => by cases e)
          rw [rest_set hr] at c'
          exact ⟨a.set hr b.gs, e₁, rest r s₁, c', h2, h3, rest_set hr⟩
        | running => rw [rest_at hg (hc.none_of hg no_stkR)]; obtain ⟨h1, rfl⟩ := hw; exact ⟨hc, h1, rfl⟩
        | finished => rw [rest_at hg (hc.none_of hg no_stkF)]; obtain ⟨h1, rfl⟩ := hw; exact ⟨hc, h1, rfl⟩
      exact ⟨res, rest r s', key.2, ih res Q E p s' key.1 h⟩
  | yield _ _ _ _ => intro Q E p s _ h; exact h
  | stack k ih => intro Q E p s hc h; exact ih _ Q E p s hc h
  | fork _ _ => intro Q E p s _ h; exact h
  | thread k ih => intro Q E p s hc h; exact ih _ Q E p s hc h
  | await _ _ _ _ _ => intro Q E p s _ h; exact h
/-- a step of a consumer while generators sleep -/
theorem thnS {α : Type} {M : Model} {A : Around} {r : Nat → Option GenState} {t : Sem α} {Q Q' : α → Shared → Prop} {E : Value → Shared → Prop} {s : Shared} (hc : Cond r s) (h : wpAny M A t Q' (fun _ _ => False) s) (hQ : ∀ a z, Cond r z → Q' a z → Q a (rest r z)) : wpAny M A t Q E (rest r s) := by
  intro Γ p hΓ
  refine Sem.wp_mono M Γ t ?_ ?_ _ _ (wp_swap t _ _ p s hc (h Γ p hΓ))
  · rintro a p' s' ⟨z, h1, h2, rfl⟩; exact hQ a z h1 h2
  · rintro e p' s' ⟨z, h1, h2, _⟩; exact h2.elim
/-- all sleeping entries made so that they cannot be woken -/
def bury : GenState → GenState
  | .suspended _ l c p fs cl => .suspended (fun _ => .unsupported "") l c p fs cl
  | x => x
def grave (s : Shared) : Shared := { s with gens := s.gens.map bury }
def back (s : Shared) (i : Nat) : Option GenState := match s.gens[i]? with
  | some (.suspended k l c p fs cl) => some (.suspended k l c p fs cl)
  | _ => none
theorem grave_rest (s : Shared) : rest (back s) (grave s) = s := by
  obtain ⟨h, g, d, t, o⟩ := s
  simp only [rest, grave]
  congr 1
  apply Array.ext_getElem?
  intro i
  simp only [Array.getElem?_mapIdx, Array.getElem?_map]
  cases e : g[i]? with
  | none => rfl
  | some x =>
    simp only [Option.map_some, Option.some.injEq]
    unfold back
    simp only [e]
    cases x <;> rfl
theorem grave_cond (s : Shared) : Cond (back s) (grave s) where
  stk := fun i X e => by
    unfold back at e
    split at e
    · rename_i k l c p fs cl q
      cases e
      exact ⟨.suspended (fun _ => .unsupported "") l c p fs cl, by show (s.gens.map bury)[i]? = _; rw [Array.getElem?_map, q]; rfl, ⟨_, _, _, _, _, _, rfl, fun r => ⟨"", rfl⟩⟩, rfl⟩
    · cases e
  nog := fun i k l c p fs cl e hi => by
    have e : (s.gens.map bury)[i]? = _ := e
    rw [Array.getElem?_map] at e
    unfold back at hi
    cases q : s.gens[i]? with
    | none => rw [q] at e; cases e
    | some x =>
      rw [q] at e hi
      cases x with
      | suspended => cases hi
      | _ => cases e
theorem grave_bare {s : Shared} (h : AllBare s.gens) : AllBare (grave s).gens := fun x hx => by
  obtain ⟨y, hy, rfl⟩ := Array.mem_map.mp hx
  have := h y hy
  cases y <;> simpa [bury, GenState.bare] using this
theorem rest_bare {r : Nat → Option GenState} {s : Shared} (hr : ∀ i X, r i = some X → X.bare = true) (h : AllBare s.gens) : AllBare (rest r s).gens := fun x hx => by
  obtain ⟨i, hi, e⟩ := Array.mem_iff_getElem.mp hx
  have q : (rest r s).gens[i]? = some x := by rw [Array.getElem?_eq_getElem hi, e]
  rw [rest_get] at q
  cases z : s.gens[i]? with
  | none => rw [z] at q; cases q
  | some y =>
    rw [z] at q
    cases hri : r i with
    | none => rw [hri] at q; cases q; exact h _ (Array.mem_of_getElem? z)
    | some X => rw [hri] at q; cases q; exact hr i _ hri
theorem back_bare {s : Shared} (h : AllBare s.gens) : ∀ i X, back s i = some X → X.bare = true := fun i X e => by
  unfold back at e
  split at e
  · rename_i q; cases e; exact h _ (Array.mem_of_getElem? q)
  · cases e
/-- the sleeping entry stands -/
theorem back_at {s z : Shared} {g : Nat} {k : Resume → Sem PySem.Fin} {l : List Value} {c : Code} {p : Pos} {fs : List Frame} {cl : Bool} (h : s.gens[g]? = some (.suspended k l c p fs cl)) (hc : Cond (back s) z) : (rest (back s) z).gens[g]? = some (.suspended k l c p fs cl) := by
  have e : back s g = some (.suspended k l c p fs cl) := by unfold back; rw [h]
  obtain ⟨b, h1, _⟩ := hc.stk g _ e
  rw [rest_get, h1, e]; rfl
end Ev
set_option maxRecDepth 100000
set_option maxHeartbeats 1000000
/-! EvGC: a comprehension over a generator. -/
namespace Ev
open PySem L2 PySem.Spec PyProof.Rows GenW
/-- the comprehension as a consumer -/
def conC (t : Tg) (cond : SB) (elt : SE) (ls : Ls) : Con := fun ws w h => match bindTg t w ls with
  | some ls1 => match cond ls1 h with
    | .ok true h2 => match elt ls1 h2 with
      | .ok y h3 => some (ws ++ [y], h3)
      | _ => none
    | .ok false h2 => some (ws, h2)
    | _ => none
  | none => none
def eCompG (vs : List Nat) (t : Tg) (G : Con → Ls → Heap → GD) (cond : SB) (elt : SE) : SE := fun ls h => match G (conC t cond elt (wipeL ls vs)) ls h with
  | .ok a h' => .ok (.ref h'.nx) (h'.new (.lst a.ws))
  | _ => .bad
theorem thn0 {α : Type} {M : Model} {A : Around} {t : Sem α} {Q Q' : α → Shared → Prop} {E : Value → Shared → Prop} {s : Shared} (h : wpAny M A t Q' (fun _ _ => False) (grave s)) (hQ : ∀ a z, Cond (back s) z → Q' a z → Q a (rest (back s) z)) : wpAny M A t Q E s := by
  have := thnS (E := E) (grave_cond s) h hQ
  rwa [grave_rest] at this
/-- the block, entered when the generator was made -/
abbrev Xg (X : Cx) (sc : Shared) (H : Hp) (scope : Scope) (ce : Env) : Cx := X.blk sc H scope ce []
/-- this frame's dict was seen at a standing block -/
def Seen (X : Cx) (σ : L2.St) (Lo : Obj) : Prop := ∃ (s2 : Shared) (H2 : Hp), Inv X [] σ H2 s2 ∧ s2.heap.get? X.env.locals = some Lo
theorem Seen.inv {X : Cx} {σ : L2.St} {Lo : Obj} (S : Seen X σ Lo) {s : Shared} {H : Hp} {pins : List (Addr × Obj)} (e : s.heap.get? X.env.locals = some Lo) (os : s.os = X.s_0.os) (hb : AllBare s.gens) (un : Un X.fs X.ex X.H_0 H X.s_0.heap s.heap) (hok : HOk X.prog X.w H s.heap)
    (hx0 : X.ex = []) (old : ∀ x c, X.env.cells.lookup x = some c → X.H_0 c = none ∧ ∃ v, X.s_0.heap.IsCell c v) (fl : H X.env.locals = none) (hp : ∀ p ∈ X.pn ++ pins, s.heap.get? p.1 = some p.2 ∧ H p.1 = none ∧ p.1 ≠ X.env.locals ∧ p.1 ∉ X.fs ∧ ∀ v, p.2.data ≠ .cell v) : Inv X pins σ H s := by
  obtain ⟨s2, H2, I, e2⟩ := S
  obtain ⟨m, hns, hl⟩ := I.loc
  have cellk : ∀ x c, X.env.cells.lookup x = some c → ∃ o : Obj, (∃ sl, s.heap.get? c = some { o with slots := sl }) ∧ (∃ sl, s2.heap.get? c = some { o with slots := sl }) ∧ H c = none := fun x c q => by
    obtain ⟨h1, v, o, h3, h4⟩ := old x c q
    have nx : c ∉ X.ex := by rw [hx0]; simp
    exact ⟨o, un.any h3 h1 nx, I.base.any h3 h1 nx, un.free c o h3 h1 nx⟩
  refine ⟨I.ok, os, hb, un, ⟨m, ?_, fun i x v e1 e2' e3 => ?_⟩, fun x c q => ?_, fl, fun x c q => (cellk x c q).choose_spec.2.2, hp, hok, I.len⟩
  · exact hns.at' fun o q => by rw [e2] at q; cases q; exact e
  · obtain ⟨u, ru, lk⟩ := hl i x v e1 e2' e3
    refine ⟨u, ru, ?_⟩
    rcases lk with lk | ⟨k, c, hc, q⟩
    · exact .inl lk
    · refine .inr ⟨k, c, hc, ?_⟩
      obtain ⟨o, ⟨s1, q1⟩, ⟨s2', q2⟩, _⟩ := cellk x c hc
      obtain ⟨o', z1, z2⟩ := q
      rw [q2] at z1; cases z1
      exact ⟨_, q1, z2⟩
  · obtain ⟨o, ⟨s1, q1⟩, ⟨s2', q2⟩, _⟩ := cellk x c q
    obtain ⟨v, o', z1, z2⟩ := I.cell x c q
    rw [q2] at z1; cases z1
    exact ⟨v, _, q1, z2⟩
/-- the comprehension that is filled: its list, its frame's dict -/
def gcC (X : Cx) (σ : L2.St) (D : Addr) (c : Con) : GCon X.K where
  T := [D, X.env.locals]
  c := c
  CI := fun a ρ H tp => ∃ arr cn ys Lo, tp = [(D, lstObj arr cn), (X.env.locals, Lo)] ∧ Vals ys arr.toList ∧ VRs X.K ρ H a.ws ys ∧ arr.size ≤ a.k ∧ Seen X σ Lo
  st := fun ⟨arr, c, ys, Lo, h1, h2, h3, h4, h5⟩ ex => ⟨arr, c, ys, Lo, h1, h2, h3.ex ex, h4, h5⟩
theorem cells_none {names : List (Str × NameKind)} (h : ∀ y ∈ names, y.2 ≠ .cell) : ∀ (n : Nat) (acc : List (Str × Addr)), cellsFrom n names acc = acc := by
  induction names with
  | nil => intro n acc; rfl
  | cons y r ih =>
    intro n acc
    obtain ⟨x, k⟩ := y
    unfold cellsFrom
    have : k ≠ .cell := h (x, k) (by simp)
    rw [if_neg (by simpa using this)]
    exact ih (fun y hy => h y (List.mem_cons_of_mem _ hy)) n acc
theorem Inv.older {X : Cx} {pins : List (Addr × Obj)} {σ : L2.St} {H H0 : Hp} {s s0 sc : Shared} {scope : Scope} {ce : Env} (I : Inv (X.blk s0 H0 scope ce []) pins σ H s) (hn : ∀ x, (scope.names.lookup x == some .cell) = false) (h1 : sc.heap.objs.size ≤ s0.heap.objs.size) (ho : s0.os = sc.os)
    (hb : ∀ b o, X.base.get? b = some o → sc.heap.get? b = some o ∧ H0 b = none) (hbs : X.base.objs.size ≤ sc.heap.objs.size) (hf : sc.heap.FunFrames X.base X.stack) (un : Un (frs X.stack) [] H0 H sc.heap s.heap) : Inv (Xg X sc H0 scope ce) pins σ H s :=
  ⟨⟨I.ok.mod, I.ok.kind, I.ok.glob, I.ok.blt, Nat.le_trans h1 I.ok.above, I.ok.inj, I.ok.has, fun x c e => absurd ((show (scope.names.lookup x == some .cell) = true from e).symm.trans (hn x)) (by decide), I.ok.hd, I.ok.frames, I.ok.stk, I.ok.exf, hb, hbs, I.ok.noex, I.ok.exfs, hf, I.ok.frf⟩, I.os.trans ho, I.bare, un, I.loc, I.cell, I.free, I.freeC, I.pin, I.hok, I.len⟩
theorem wipe_wipe {σ : L2.St} {vs : List Nat} : L2.wipe (L2.wipe σ vs) vs = L2.wipe σ vs := by
  have : ∀ (ws : List Nat), (∀ i ∈ ws, i ∈ vs) → L2.wipe (L2.wipe σ ws) vs = L2.wipe σ vs := by
    intro ws
    induction ws with
    | nil => intro _; rfl
    | cons v ws ih =>
      intro hv
      show L2.wipe ((L2.wipe σ ws).set v none) _ = _
      rw [wipe_set (hv v (by simp))]
      exact ih fun i hi => hv i (List.mem_cons_of_mem _ hi)
  exact this _ fun _ h => h
def NoX : XK := fun _ _ _ => False
section
variable {X : Cx} {N : Nm} {Wx : WX} {elt tg iter : PySem.Expr} {ifs : List PySem.Expr} {t : Tg} {cond : SB} {f : SE} {scope : Scope} {own : List (Str × Nat)} {k : Nat} {G : Con → Ls → Heap → GD}
theorem lcg_core {pins : List (Addr × Obj)} {s : Shared} {σ : L2.St} {H : Hp} {Q : VK} {pos pos' : Pos} {use : Option (Value → Sem Unit)} {Qf : Value → Shared → Prop}
    (hN : X.N.Nodup) (I : Inv X pins σ H s) (hG : PGe X N Wx k iter G) (hr : Room (k + 3) X.A) (hgu : X.A.guards = some []) (ok : BlkOk X.N X.env.scope scope own) (hnc : ∀ y ∈ scope.names, y.2 ≠ .cell) (hown : ∀ i, t.has i → i ∈ own.map (·.2))
    (hg : ∀ (s : Shared) (H : Hp) (C : Addr) (cl : List (Str × Addr)) (fp : List Addr), PG (X.blk s H scope (compEnvC scope cl C X.env) fp) tg (tgOf X.K t)) (ht : ∀ (s : Shared) (H : Hp) (C : Addr) (cl : List (Str × Addr)) (fp : List Addr), PTs (X.blk s H scope (compEnvC scope cl C X.env) fp) ifs (LT X.K N W0 cond))
    (he : ∀ (s : Shared) (H : Hp) (C : Addr) (cl : List (Str × Addr)) (fp : List Addr), PE (X.blk s H scope (compEnvC scope cl C X.env) fp) elt (LE X.K N W0 f)) (hs : ∀ x, foldedSetIterable iter X.env x = pure x)
    (h : LE X.K N Wx (eCompG (own.map (·.2)) t G cond f) σ H Q)
    (hRR : ∀ D C s' m H', Inv X pins σ H' s' → Q (.ref D) H' → s'.heap.Ns C m → FpOk X pins H' C → compPost (model X.prog X.w) X.A X.xe use Qf (.ref D) C (.ok .next) s') :
    wpAny (model X.prog X.w) X.A (comprehension (.ListComp elt [⟨tg, iter, ifs, 0⟩] scope pos) scope X.env pos' (newList []) false (eval iter X.env) use) Qf X.xe s := by
  obtain ⟨ρ, ls, hp, l, hh, o⟩ := h
  unfold eCompG at o
  generalize hcn : conC t cond f (wipeL ls (own.map (·.2))) = cn at o
  cases eG : G cn ls hp with
  | exc c fs h' => rw [eG] at o; exact o.elim
  | bad => rw [eG] at o; exact o.elim
  | ok a0 h0 =>
  rw [eG] at o
  simp only at o
  have frees : ∀ y ∈ scope.names, y.2 = .free → ∃ c, X.env.cells.lookup y.1 = some c := fun y hy e =>
    (ok.free y hy e).elim (fun z => I.ok.has _ (.inl z)) fun z => I.ok.has _ (.inr z)
  refine wpAny_comprehension_free (use := use) rfl hs (closure_ok frees) ok.kind (fun y hy e => by rw [ok.uniq y hy, e])
    (thn (hG.run pins s σ H ρ ls hp cn I l hh (fun z => by rw [eG] at z; cases z) fun cl fs h' z => by rw [eG] at z; cases z) fun u s1 hu => ?_)
  obtain ⟨sc, ρ1, ws, h1, H1, F, I1, ex1, r1, ef, hM⟩ := hu
  obtain ⟨ga, g, cd, rfl, ha1, ha2, hg1, hgs, hos, hb, hl, hkp, wake⟩ := hM
  have eF : F cn ws h1 = .ok a0 h0 := by rw [← ef, eG]
  refine wpAny_pyIter_gen hg1 ?_
  refine wpAny_newObj_type (newEnv_comp ?_) (by show 0 ≤ sizeLine; decide)
  have hsz1 : sc.heap.objs.size ≤ s1.heap.objs.size := Nat.le_trans ha1 (Nat.le_of_lt ha2)
  generalize hD : s1.heap.objs.size = D at ha2 hsz1 ⊢
  generalize hs3 : ({ s1 with heap := s1.heap.push { cls := .type "list", data := .seq ([] : List Value).toArray } } : Shared) = s3
  have h3 : s3.heap = s1.heap.push { cls := .type "list", data := .seq ([] : List Value).toArray } := by rw [← hs3]
  have kp13 : ∀ b o, s1.heap.get? b = some o → s3.heap.get? b = some o := fun b o e => by rw [h3]; exact Heap.get?_push_of_some _ e
  have hD3 : s3.heap.get? D = some (lstObj #[] 0) := by rw [h3, ← hD]; exact Heap.get?_push_size _ rfl
  have os3 : s3.os = sc.os := by rw [← hs3]; exact hos
  have g3 : s3.gens = s1.gens := by rw [← hs3]
  have sz3 : s3.heap.objs.size = D + 1 := by rw [h3, Heap.size_push, hD]
  have I3 : Inv X pins σ H1 s3 := I1.call' (ch := []) os3 (Un.kept fun b o e => kp13 b o (hkp b o e)) (I1.hok.kept fun b o e => kp13 b o (hkp b o e)) (by rw [g3]; exact hb) fun b z => by simp at z
  have I4 := block_start (fp := []) I3 ok hN fun b z => by simp at z
  have nocell : ∀ x, (scope.names.lookup x == some NameKind.cell) = false := fun x => by
    cases e : scope.names.lookup x with
    | none => rfl
    | some kd => exact beq_eq_false_iff_ne.mpr fun z => hnc _ (PySem.mem_of_lookup e) (Option.some.inj z)
  have cells0 := cells_none hnc (s3.heap.objs.size + 1) (cloFrom X.env.cells scope.names [])
  show codeAny _ _ (.compStart (.ListComp elt [⟨tg, iter, ifs, 0⟩] scope pos) 0 (.ref ga) (.ref D) (compEnvC scope (cellsFrom (s3.heap.objs.size + 1) scope.names (cloFrom X.env.cells scope.names [])) s3.heap.objs.size X.env)) (compPost (model X.prog X.w) X.A X.xe use Qf (.ref D) s3.heap.objs.size) { s3 with heap := pushCells (s3.heap.push { cls := .type "dict", data := .dict #[] }) scope.names }
  have kp34 : ∀ b o, s3.heap.get? b = some o → (pushCells (s3.heap.push { cls := .type "dict", data := .dict #[] }) scope.names).get? b = some o := fun b o e => pushCells_keeps _ _ _ _ (Heap.get?_push_of_some _ e)
  generalize hs4 : ({ s3 with heap := pushCells (s3.heap.push { cls := .type "dict", data := .dict #[] }) scope.names } : Shared) = s4 at I4 ⊢
  have kp4 : ∀ b o, s3.heap.get? b = some o → s4.heap.get? b = some o := by rw [← hs4]; exact kp34
  have os4 : s4.os = sc.os := by rw [← hs4]; exact os3
  have g4 : s4.gens = s1.gens := by rw [← hs4]; exact g3
  have kpc4 : ∀ b o, sc.heap.get? b = some o → s4.heap.get? b = some o := fun b o e => kp4 b o (kp13 b o (hkp b o e))
  have I5 := Inv.older (sc := sc) I4 nocell (by rw [sz3, ← hD]; omega) os3 (fun b o e => I1.bs b o e) (Nat.le_trans I1.ok.bsz I1.sz) I1.stack (Un.kept kpc4)
  have pg := fun s H => hg s H s3.heap.objs.size (cellsFrom (s3.heap.objs.size + 1) scope.names (cloFrom X.env.cells scope.names [])) []
  have pt := fun s H => ht s H s3.heap.objs.size (cellsFrom (s3.heap.objs.size + 1) scope.names (cloFrom X.env.cells scope.names [])) []
  have pe := fun s H => he s H s3.heap.objs.size (cellsFrom (s3.heap.objs.size + 1) scope.names (cloFrom X.env.cells scope.names [])) []
  generalize hce : compEnvC scope (cellsFrom (s3.heap.objs.size + 1) scope.names (cloFrom X.env.cells scope.names [])) s3.heap.objs.size X.env = ce at I4 I5 pg pt pe ⊢
  have cL : ce.locals = s3.heap.objs.size := by rw [← hce]; rfl
  have cC : ce.cells = cloFrom X.env.cells scope.names [] := by rw [← hce]; exact cells0
  rw [← cL]
  have DL : D ≠ ce.locals := by rw [cL, sz3]; omega
  have old : ∀ x c, ce.cells.lookup x = some c → H1 c = none ∧ ∃ v, sc.heap.IsCell c v := fun x c e => by
    rw [cC] at e
    rcases cloFrom_mem (PySem.mem_of_lookup e) with z | ⟨z1, z2⟩
    · cases z
    · obtain ⟨c', q⟩ := frees _ z1 rfl
      rw [q] at z2
      have z2 : c = c' := z2
      subst z2
      exact ⟨I1.freeC _ _ q, I1.cell _ _ q⟩
  generalize hsw : L2.wipe σ (own.map (·.2)) = σw at I4 I5
  have hsww : L2.wipe σw (own.map (·.2)) = σw := by rw [← hsw, wipe_wipe]
  have lw : ∀ {ρ' H'}, Ex ρ1 ρ' H1 H' → LR X.K ρ' H' (wipeL ls (own.map (·.2))) σw := fun ex => by rw [← hsw]; exact ((l.ex ex1).ex ex).wipe _
  generalize hCc : gcC (Xg X sc H1 scope ce) σw D cn = Cc
  have hCT : Cc.T = [D, ce.locals] := by rw [← hCc]; rfl
  have hCcn : Cc.c = cn := by rw [← hCc]; rfl
  have hCI : ∀ a ρ H tp, Cc.CI a ρ H tp ↔ ∃ arr cn ys Lo, tp = [(D, lstObj arr cn), (ce.locals, Lo)] ∧ Vals ys arr.toList ∧ VRs X.K ρ H a.ws ys ∧ arr.size ≤ a.k ∧ Seen (Xg X sc H1 scope ce) σw Lo := fun a ρ H tp => by rw [← hCc]; rfl
  have hg4 : s4.heap.IsGen ga g := hg1.keeps fun b o e => kp4 b o (kp13 b o e)
  have loop : codeAny (model X.prog X.w) X.A (.compLoop (.ListComp elt [⟨tg, iter, ifs, 0⟩] scope pos) 0 (.ref ga) (.ref D) ce) (compPost (model X.prog X.w) X.A X.xe use Qf (.ref D) ce.locals) s4 := by
    refine compLoop_any (fun n s5 => s5.heap.IsGen ga g ∧ s5.heap.NoLimit ∧ ∃ gs, s5.gens[g]? = some gs ∧ gs.Goes (model X.prog X.w) X.A.in1 (REE X.prog X.w X.K N Cc X.stack H1 sc ρ1 NoX ga g (F cn ws h1)) (YE X.prog X.w X.K N Cc X.stack H1 sc ρ1 ga g) n (.send .none) (s5.setGen g .running)) ?_ sizeLine ?_
    · rintro n s5 ⟨hg5, hl5, gs, hgs5, hgo⟩
      have hgl : g < s5.gens.size := (Array.getElem?_eq_some_iff.mp hgs5).1
      refine wpAny_gsz (n := g + 1) hgl (next_genG (A := X.A) (F := fun n _ s1 => ∃ a h' ρ' H' tp, F Cc.c ws h1 = .ok a h' ∧ Ex ρ1 ρ' H1 H' ∧ HR X.K N ρ' h' H' ∧ tp.map (·.1) = Cc.T ∧ Cc.CI a ρ' H' tp ∧ n + a.k = sizeLine ∧ s1.os = sc.os ∧ AllBare s1.gens ∧ Un (frs X.stack) [] H1 H' sc.heap s1.heap ∧ HOk X.prog X.w H' s1.heap ∧ ∀ p ∈ tp, s1.heap.get? p.1 = some p.2 ∧ H' p.1 = none)
        (Er := fun e s1 => CX X.prog X.w X.stack H1 sc NoX e s1 ∧ s1.heap.IsGen ga g) hr.hd hl5 (by have := hr.dp; omega) hg5 hgs5 (by rw [hCcn]; exact hgo) (fun v s6 gs' hbare hv hsz => ?_) (fun s6 hp h' hk hsz => ?_) fun e s6 he => ?_)
      · obtain ⟨a, wv, x, hh', ρ5, H5, tp, gp, q1, rv5, rw5, r5, ex5, hT5, ci5, os5, b5, un5, hok5, nl5, gen5, pin5, gpT, ⟨go, hgo5⟩, ws', h2', ec, kk⟩ := hv
        rw [hCI] at ci5
        obtain ⟨arr, cc, ys, Lo, et, va, vr, hasz, seen⟩ := ci5
        subst et
        rw [hCcn, ← hcn] at ec
        rw [hCT] at gpT
        have hsz6 : g < s6.gens.size := by
          have q : (s6.setGen g gs').gens.size = s6.gens.size := setGen_size _ _ _
          have hsz' : g + 1 ≤ (s6.setGen g gs').gens.size := hsz
          omega
        have hz0g : (s6.setGen g gs').gens[g]? = some gs' := setGen_at hsz6
        have hz0b : AllBare (s6.setGen g gs').gens := allBare_setGen b5 hbare
        have hz0h : (s6.setGen g gs').heap = s6.heap := rfl
        have hz0o : (s6.setGen g gs').os = sc.os := os5
        generalize hz0 : s6.setGen g gs' = z0 at hz0g hz0b hz0h hz0o ⊢
        have pD := pin5 (D, lstObj arr cc) (by simp)
        have pL := pin5 (ce.locals, Lo) (by simp)
        have gpn : ∀ p ∈ gp, p.1 ≠ D ∧ p.1 ≠ ce.locals := fun p hp => by
          have := gpT p hp
          simp only [List.mem_cons, List.not_mem_nil, or_false, not_or] at this
          exact this
        have I6 : Inv (Xg X sc H1 scope ce) ((D, lstObj arr cc) :: gp) σw H5 (grave z0) := seen.inv (by show z0.heap.get? _ = _; rw [hz0h]; exact pL.1) hz0o (grave_bare hz0b) (by show Un _ _ _ _ _ z0.heap; rw [hz0h]; exact un5) (by show HOk _ _ _ z0.heap; rw [hz0h]; exact hok5) rfl old pL.2.1 fun p hp => by
          have hp : p ∈ (D, lstObj arr cc) :: gp := hp
          show z0.heap.get? _ = _ ∧ _
          rw [hz0h]
          rcases List.mem_cons.mp hp with e | e
          · subst e; exact ⟨pD.1, pD.2.1, DL, pD.2.2.1, pD.2.2.2⟩
          · have z := pin5 p (List.mem_append_right _ e)
            exact ⟨z.1, z.2.1, (gpn p e).2, z.2.2.1, z.2.2.2⟩
        obtain ⟨og, nm, qn, ho1, ho2, ho3, ho4⟩ := gen5
        have hog : og = go := by
          have z := (pin5 (ga, go) (List.mem_append_right _ hgo5)).1
          rw [ho1] at z; exact Option.some.inj z
        refine go_of (o := og) (by rw [hz0h]; exact ho1) ho2 ho3 (by decide) ?_
        -- the turn's end
        have fin : ∀ {σ8 : L2.St} {z' : Shared} {H' : Hp} {ρ' : List Addr} {arr' : Array Value} {c' : Nat} {ys' : List V}, L2.wipe σ8 (own.map (·.2)) = σw → Cond (back z0) z' → Inv (Xg X sc H1 scope ce) gp σ8 H' z' → z'.heap.get? D = some (lstObj arr' c') → H' D = none → Ex ρ5 ρ' H5 H' → HR X.K N ρ' h2' H' → Vals ys' arr'.toList → VRs X.K ρ' H' ws' ys' → arr'.size ≤ a.k + 1 →
            ∃ m, m < n ∧ ((rest (back z0) z').heap.IsGen ga g ∧ (rest (back z0) z').heap.NoLimit ∧ ∃ gs, (rest (back z0) z').gens[g]? = some gs ∧ gs.Goes (model X.prog X.w) X.A.in1 (REE X.prog X.w X.K N Cc X.stack H1 sc ρ1 NoX ga g (F cn ws h1)) (YE X.prog X.w X.K N Cc X.stack H1 sc ρ1 ga g) m (.send .none) ((rest (back z0) z').setGen g .running)) := by
          intro σ8 z' H' ρ' arr' c' ys' hw8 hc' I' hD' hn' ex' hr' va' vr' hs'
          obtain ⟨mL, hnsL, _⟩ := I'.loc
          obtain ⟨Lo', es, ep, hLo, hrest⟩ := id hnsL
          have sn : Seen (Xg X sc H1 scope ce) σw Lo' := by
            refine ⟨z', H', (I'.pins_of (pins' := []) (fun p hp => by cases hp)).weak (by rw [← hw8, wipe_length]) (fun j v e => ?_), hLo⟩
            rw [← hw8] at e
            exact (wipe_some e).1
          have hLc : ∀ v, Lo'.data ≠ .cell v := fun v z => by rw [hrest.1] at z; cases z
          have kp := kk ((rest (back z0) z').setGen g .running) ρ' H' [(D, lstObj arr' c'), (ce.locals, Lo')] I'.os (allBare_setGen (rest_bare (back_bare hz0b) I'.bare) rfl) I'.base I'.hok ex' hr' (by rw [hCT]; rfl) (by rw [hCI]; exact ⟨arr', c', ys', Lo', rfl, va', vr', hs', sn⟩)
            (fun p hp => by
              rcases List.mem_append.mp hp with y | y
              · rcases List.mem_cons.mp y with e | e
                · subst e; exact ⟨hD', hn'⟩
                · rw [List.mem_singleton.mp e]; exact ⟨hLo, I'.free⟩
              · have z := I'.pin p y
                exact ⟨z.1, z.2.1⟩)
            (fun p hp => by
              rcases List.mem_cons.mp hp with e | e
              · subst e; exact fun v z => by cases z
              · rw [List.mem_singleton.mp e]; exact hLc)
          cases n with
          | zero => exact (kp .none (.inl rfl)).elim
          | succ m =>
            refine ⟨m, Nat.lt_succ_self _, ⟨og, nm, qn, ?_, ho2, ho3, ho4⟩, I'.nolimit, gs', ?_, by have z := kp .none (.inl rfl); rw [hCcn] at z; exact z⟩
            · rw [hog]; exact (I'.pin (ga, go) hgo5).1
            · have z1 := kp .none (.inl rfl)
              have z2 := kp (.bool true) (.inr rfl)
              cases gs' with
              | suspended kq lq cq pq fq clq => exact back_at hz0g hc'
              | fresh cq => exact absurd z2.1 (by intro z; cases z)
              | running => exact z1.elim
              | finished => exact z1.elim
        unfold conC at ec
        split at ec
        case h_2 => cases ec
        rename_i ls1 eb
        have hg6 : tgOf X.K t x σw H5 fun σ2 H2 => H2 = H5 ∧ L2.wipe σ2 (own.map (·.2)) = σw ∧ LR X.K ρ5 H5 ls1 σ2 := tg_in (lw ex5) rw5 eb fun σ2 l2 hw => ⟨rfl, by rw [hw (own.map (·.2)) hown, hsww], l2⟩
        refine thn0 ((pg sc H1).run _ (grave z0) _ H5 x v _ I6 rv5 hg6) fun _ z8 hc8 h8 => ?_
        obtain ⟨σ8, H8, I8, rfl, hw8, l8⟩ := h8
        have ht8 : LT X.K N W0 cond σ8 H8 fun b H9 => ∃ ρ9 h9, cond ls1 hh' = .ok b h9 ∧ Ex ρ5 ρ9 H8 H9 ∧ HR X.K N ρ9 h9 H9 := by
          refine ⟨ρ5, ls1, hh', l8, r5, ?_⟩
          cases ec2 : cond ls1 hh' with
          | ok b h9 => exact fun ρ9 H9 ex9 r9 => ⟨ρ9, h9, rfl, ex9, r9⟩
          | exc => rw [ec2] at ec; cases ec
          | bad => rw [ec2] at ec; cases ec
        refine thnS hc8 ((pt sc H1).run _ z8 σ8 H8 _ I8 ht8) fun b z9 hc9 h9' => ?_
        obtain ⟨H9, I9, ρ9, h9, ec9, ex9, r9⟩ := h9'
        rw [ec9] at ec
        have pD9 := I9.pin (D, lstObj arr cc) (by simp)
        have pinsgp : ∀ {H' : Hp} {z' : Shared}, Inv (Xg X sc H1 scope ce) ((D, lstObj arr cc) :: gp) σ8 H' z' → Inv (Xg X sc H1 scope ce) gp σ8 H' z' := fun I' => I'.pins_of fun p hp => I'.pin p (List.mem_append_right _ (List.mem_cons_of_mem _ hp))
        have vr9 := vr.ex ex9
        cases b with
        | false =>
          rw [if_neg Bool.false_ne_true]
          simp only [Option.some.injEq, Prod.mk.injEq] at ec
          obtain ⟨rfl, rfl⟩ := ec
          exact fin hw8 hc9 (pinsgp I9) pD9.1 pD9.2.1 ex9 r9 va vr9 (Nat.le_succ_of_le hasz)
        | true =>
          rw [if_pos rfl]
          simp only at ec
          have he9 : LE X.K N W0 f σ8 H9 fun y H10 => ∃ ρ10 w h10, f ls1 h9 = .ok w h10 ∧ Ex ρ9 ρ10 H9 H10 ∧ HR X.K N ρ10 h10 H10 ∧ VR X.K ρ10 H10 w y := by
            refine ⟨ρ9, ls1, h9, l8.ex ex9, r9, ?_⟩
            cases ef2 : f ls1 h9 with
            | ok w h10 => exact fun ρ10 H10 y ex10 r10 rx => ⟨ρ10, w, h10, rfl, ex10, r10, rx⟩
            | exc => rw [ef2] at ec; cases ec
            | bad => rw [ef2] at ec; cases ec
          refine thnS hc9 ((pe sc H1).run _ z9 σ8 H9 _ I9 he9) fun xv z10 hc10 h10' => ?_
          obtain ⟨yv, H10, I10, ry, ρ10, w, h10, ef10, ex10, r10, rx10⟩ := h10'
          rw [ef10] at ec
          simp only [Option.some.injEq, Prod.mk.injEq] at ec
          obtain ⟨rfl, rfl⟩ := ec
          have pD10 := I10.pin (D, lstObj arr cc) (by simp)
          have hfit : arr.size ≤ sizeLine := by omega
          refine thnS (Q' := fun _ z => ∃ h', Heap.SameBut D z10.heap h' ∧ h'.get? D = some (lstObj (arr.push xv) (cc + 1)) ∧ z = { z10 with heap := h' }) hc10 (append_at (its := arr) (n := cc) pD10.1 (fun h' sb ho => ⟨h', sb, ho, rfl⟩) hfit) fun _ z11 hc11 h11 => ?_
          obtain ⟨h', sb, ho, rfl⟩ := h11
          have I11 : Inv (Xg X sc H1 scope ce) gp σ8 H10 { z10 with heap := h' } := (pinsgp I10).turned (t' := z10.toks) (it := D) (fun b o hb e => (sb.2 b hb).trans e) pD10.2.1 DL (.inr hsz1) (fun y c e => ?_) fun p hp => (gpn p hp).1
          · refine fin hw8 hc11 I11 ho pD10.2.1 (ex9.trans ex10) r10 (by rw [Array.toList_push]; exact va.append (.cons ry .nil)) ((vr9.ex ex10).append (.cons rx10 .nil)) (by rw [Array.size_push]; omega)
          · obtain ⟨_, w, hw⟩ := old y c e
            exact Nat.ne_of_lt (Nat.lt_of_lt_of_le hw.lt hsz1)
      · obtain ⟨a, h', ρ', H', tp, er, ex, hrr, hT, ci, hk0, os, hb', un, hok, pins'⟩ := hp
        rw [hCI] at ci
        obtain ⟨arr, cc, ys, Lo, et, va, vr, hasz, s2, H2, I2, e2⟩ := ci
        subst et
        rw [hCcn, eF] at er
        cases er
        obtain ⟨mL, hnsL, _⟩ := I2.loc
        have pD := pins' (D, lstObj arr cc) (by simp)
        have pL := pins' (ce.locals, Lo) (by simp)
        have hlen : ys.length ≤ sizeLine := by
          have := va.length
          have e2 : arr.toList.length = arr.size := by simp
          omega
        have nS : D ∉ ρ' := fun m => hrr.fresh pD.2 D m rfl
        have hr2 : HR X.K N (ρ' ++ [D]) (h0.new (.lst a0.ws)) (upd H' D (.lst ys)) := hrr.new pD.2 (.lst (vr.mono (List.prefix_append _ _) (HE.new pD.2)))
        refine hRR D ce.locals _ mL (upd H' D (.lst ys)) (I1.drained hsz1 hlen (hk _ _ pD.1) va .nil os (allBare_setGen hb' rfl) (un.trans (Un.kept hk)) (hok.kept hk) pD.2) ?_ ?_ ?_
        · exact o (ρ' ++ [D]) _ _ ((ex1.trans ex).trans (Ex.alloc pD.2)) hr2 (.ref (hrr.at_new D))
        · exact hnsL.at' fun o q => by rw [show s2.heap.get? ce.locals = _ from e2] at q; cases q; exact hk _ _ pL.1
        · rw [cL]
          refine I3.fpOk (Nat.le_refl _) ?_
          rw [upd_ne (by rw [← cL]; exact Ne.symm DL), ← cL]
          exact pL.2
      · obtain ⟨⟨a, B, H', cls, d, _, _, _, _, _, _, _, hW⟩, _⟩ := he
        exact hW.elim
    · refine ⟨hg4, hl.keeps fun b o e => kp4 b o (kp13 b o e), .fresh cd, by rw [g4]; exact hgs, rfl, ?_⟩
      obtain ⟨mL, hnsL, _⟩ := id I5.loc
      obtain ⟨Lo, es, ep, hLo, hrest⟩ := id hnsL
      have z := wake X.A.in1 Cc NoX (s4.setGen g .running) [(D, lstObj #[] 0), (ce.locals, Lo)] ⟨hr.hd, ?_, ?_⟩ hgu I1.ok.frames (fun t ht => ?_) (fun b o e => kp4 b o (kp13 b o e)) (by rw [hCT]; rfl) (fun p hp => ?_) (by rw [hCI]; exact ⟨#[], 0, [], Lo, rfl, .nil, .nil, Nat.le_refl _, s4, H1, I5, hLo⟩) os4 (allBare_setGen (by rw [g4]; exact hb) rfl) (by rw [hCcn, eF]; trivial)
      · rw [hCcn] at z; exact z
      · have := hr.dp
        show X.A.depth + 3 * k + 5 < _
        omega
      · have := hr.un
        show X.A.units + 1 + 16 * k + 200 < _
        omega
      · rw [hCT] at ht
        simp only [List.mem_cons, List.not_mem_nil, or_false] at ht
        rcases ht with e | e
        · rw [e, ← hD]; exact Nat.le_refl _
        · rw [e, cL, sz3, ← hD]; exact Nat.le_succ _
      · rcases List.mem_cons.mp hp with e | e
        · subst e; exact ⟨kp4 _ _ hD3, fun v z => by cases z⟩
        · rw [List.mem_singleton.mp e]
          exact ⟨hLo, fun v z => by rw [hrest.1] at z; cases z⟩
  exact codeAny_compStart_list loop (wpAny_pyIter_gen hg4 loop)
/-- as a value -/
theorem r_compG {pos : Pos} (hN : X.N.Nodup) (hG : PGe X N Wx k iter G) (hr : Room (k + 3) X.A) (hgu : X.A.guards = some []) (ok : BlkOk X.N X.env.scope scope own) (hnc : ∀ y ∈ scope.names, y.2 ≠ .cell) (hown : ∀ i, t.has i → i ∈ own.map (·.2))
    (hg : ∀ (s : Shared) (H : Hp) (C : Addr) (cl : List (Str × Addr)) (fp : List Addr), PG (X.blk s H scope (compEnvC scope cl C X.env) fp) tg (tgOf X.K t)) (ht : ∀ (s : Shared) (H : Hp) (C : Addr) (cl : List (Str × Addr)) (fp : List Addr), PTs (X.blk s H scope (compEnvC scope cl C X.env) fp) ifs (LT X.K N W0 cond))
    (he : ∀ (s : Shared) (H : Hp) (C : Addr) (cl : List (Str × Addr)) (fp : List Addr), PE (X.blk s H scope (compEnvC scope cl C X.env) fp) elt (LE X.K N W0 f)) (hs : ∀ x, foldedSetIterable iter X.env x = pure x := by intro _; rfl) :
    PE X (.ListComp elt [⟨tg, iter, ifs, 0⟩] scope pos) (LE X.K N Wx (eCompG (own.map (·.2)) t G cond f)) := by
  refine ⟨fun pins s σ H Q I h => ?_⟩
  rw [eval_ListComp]
  refine lcg_core hN I hG hr hgu ok hnc hown hg ht he hs h fun D C s' m H' I' q hn z => ⟨m, hn, fun h'' sb => ?_⟩
  obtain ⟨f0, f1, f2, f3, f4, f5⟩ := z
  exact ⟨.ref D, H', I'.turned (t' := s'.toks) (fun b o hb e => (sb.2 b hb).trans e) f0 f1 f3 f4 f5, rfl, q⟩
/-- name = [..], on one line -/
theorem s_setG {i : Nat} {y : Str} {py pos spos : Pos} (hN : X.N.Nodup) (hy : X.N[i]? = some y) (hyl : X.env.scope.names.lookup y = some .local)
    (hsw : swapsWith (.ListComp elt [⟨tg, iter, ifs, 0⟩] scope pos) (some (.Name y py)) spos.line X.env = pure true) (hG : PGe X N Wx k iter G) (hr : Room (k + 3) X.A) (hgu : X.A.guards = some []) (ok : BlkOk X.N X.env.scope scope own) (hnc : ∀ y ∈ scope.names, y.2 ≠ .cell) (hown : ∀ i, t.has i → i ∈ own.map (·.2))
    (hg : ∀ (s : Shared) (H : Hp) (C : Addr) (cl : List (Str × Addr)) (fp : List Addr), PG (X.blk s H scope (compEnvC scope cl C X.env) fp) tg (tgOf X.K t)) (ht : ∀ (s : Shared) (H : Hp) (C : Addr) (cl : List (Str × Addr)) (fp : List Addr), PTs (X.blk s H scope (compEnvC scope cl C X.env) fp) ifs (LT X.K N W0 cond))
    (he : ∀ (s : Shared) (H : Hp) (C : Addr) (cl : List (Str × Addr)) (fp : List Addr), PE (X.blk s H scope (compEnvC scope cl C X.env) fp) elt (LE X.K N W0 f)) (hs : ∀ x, foldedSetIterable iter X.env x = pure x := by intro _; rfl) :
    PS X (.Assign [.Name y py] (.ListComp elt [⟨tg, iter, ifs, 0⟩] scope pos) spos) (LS X.K N Wx (sAsg (eCompG (own.map (·.2)) t G cond f) (gNm i))) := by
  refine ⟨fun pins s σ H D I h0 => ?_⟩
  have h : LE X.K N Wx (eCompG (own.map (·.2)) t G cond f) σ H (fun x H1 => gName i x σ H1 D.nx) := by
    obtain ⟨ρ, ls, hp, l, hr, o⟩ := asg_in (gnm_ok i) h0
    exact ⟨ρ, ls, hp, l, hr, o.mono (fun v H' z => gnm_in z) fun _ _ _ z => z⟩
  rw [exec_Assign_Name_used _ _ _ _ hsw]
  refine wpAny_bind (wpAny_standAt (wpAny_bind (wpAny_bind (thn (lcg_core (Qf := fun _ s' => SP X pins D .next s') hN I hG hr hgu ok hnc hown hg ht he hs h fun L C s1 m H1 I1 q1 hn z => ?_) fun _ s' hq => wpAny_pure (wpAny_pure hq)))))
  refine wpAny_assign_Name (store_ok2 (v := V.ref L) I1 hN hy (.inl hyl) rfl (fun s2 I2 hsb => ?_) (.inr hyl))
  obtain ⟨a, sb, ha⟩ := hsb
  obtain ⟨f0, f1, f2, f3, f4, f5⟩ := z
  have hCa : C ≠ a := ha.elim (fun z => by rw [z]; exact f1) fun z e => f4 y a z e.symm
  exact ⟨m, hn.sameBut sb hCa, fun h3 sb3 => ⟨_, H1, I2.turned (t' := s2.toks) (fun b o hb e => (sb3.2 b hb).trans e) f0 f1 f3 f4 f5, q1⟩⟩
end
theorem pick_len : ∀ {sel : List (Bool × Nat)} {n m : Nat} {xs ys : List W}, (sel.all fun p => if p.1 then decide (p.2 < m) else decide (p.2 < n)) = true → xs.length = n → ys.length = m → (pick sel xs ys).length = sel.length
  | [], _, _, _, _, _, _, _ => rfl
  | (b, i) :: r, n, m, xs, ys, h, h1, h2 => by
    simp only [List.all_cons, Bool.and_eq_true] at h
    have ih := pick_len h.2 h1 h2
    unfold pick at ih ⊢
    rw [List.filterMap_cons]
    cases b with
    | true =>
      have : i < ys.length := by rw [h2]; simpa using h.1
      simp only [if_true, List.getElem?_eq_getElem this, List.length_cons, ih]
    | false =>
      have : i < xs.length := by rw [h1]; simpa using h.1
      simp only [Bool.false_eq_true, if_false, List.getElem?_eq_getElem this, List.length_cons, ih]
end Ev
set_option maxRecDepth 100000
set_option maxHeartbeats 1000000
/-! EvEqL: lists and tuples compared item by item, instances by identity. -/
namespace Ev
open PySem L2 PyProof.Rows PySem.SeqAt
def zipO (f : W → W → Option Bool) : List W → List W → Option Bool
  | [], [] => some true
  | x :: xs, y :: ys => match f x y, zipO f xs ys with
    | some a, some b => some (a && b)
    | _, _ => none
  | _, _ => some false
/-- one item -/
def itEq (idc : Nat → Bool) (h : Heap) : Nat → W → W → Option Bool
  | 0, .ref n, .ref m => if n = m then some true else match h.get n, h.get m with
    | some (.ins c _), some (.ins d _) => if c = d ∧ idc c = true then some false else none
    | _, _ => none
  | k + 1, .ref n, .ref m => if n = m then some true else match h.get n, h.get m with
    | some (.ins c _), some (.ins d _) => if c = d ∧ idc c = true then some false else none
    | some (.lst xs), some (.lst ys) => if xs.length = ys.length then zipO (itEq idc h k) xs ys else some false
    | _, _ => none
  | _, .non, .non => some true
  | _, .bl a, .bl b => some (a == b)
  | _, .int i, .int j => some (i == j)
  | _, .str s, .str t => some (s == t)
  | k + 1, .tup xs, .tup ys => zipO (itEq idc h k) xs ys
  | _, _, _ => none
/-- two lists, two tuples -/
def lstEq (idc : Nat → Bool) (h : Heap) : W → W → Option Bool
  | .ref n, .ref m => match h.get n, h.get m with
    | some (.lst xs), some (.lst ys) => if xs.length = ys.length then zipO (itEq idc h 5) xs ys else some false
    | _, _ => none
  | .tup xs, .tup ys => zipO (itEq idc h 5) xs ys
  | _, _ => none
def wEqL (idc : Nat → Bool) (x y : W) (h : Heap) : R := ofO false (orO (lstEq idc h x y) (orO (idEq idc h x y) (eqO h x y))) h
def wNeL (idc : Nat → Bool) (x y : W) (h : Heap) : R := ofO true (orO (lstEq idc h x y) (orO (idEq idc h x y) (eqO h x y))) h
theorem zip_all {f : W → W → Option Bool} : ∀ {xs ys : List W} {b : Bool}, zipO f xs ys = some b → (∀ j (h1 : j < xs.length) (h2 : j < ys.length), ∃ c, f xs[j] ys[j] = some c) ∧
    b = ((List.range (min xs.length ys.length)).all (fun j => (f (xs.getD j .non) (ys.getD j .non)).getD false) && xs.length == ys.length)
  | [], [], b, e => by cases e; exact ⟨fun j h => by simp at h, by simp⟩
  | [], _ :: _, b, e => by cases e; exact ⟨fun j h => by simp at h, by simp⟩
  | _ :: _, [], b, e => by cases e; exact ⟨fun j _ h => by simp at h, by simp⟩
  | x :: xs, y :: ys, b, e => by
    rw [zipO] at e
    cases e1 : f x y with
    | none => rw [e1] at e; cases e
    | some a =>
      cases e2 : zipO f xs ys with
      | none => rw [e1, e2] at e; cases e
      | some c =>
        rw [e1, e2] at e
        cases e
        obtain ⟨h1, h2⟩ := zip_all e2
        refine ⟨fun j l1 l2 => ?_, ?_⟩
        · cases j with
          | zero => exact ⟨a, e1⟩
          | succ j => exact h1 j (by simpa using l1) (by simpa using l2)
        · rw [h2]
          have : min (x :: xs).length (y :: ys).length = min xs.length ys.length + 1 := by simp only [List.length_cons]; omega
          rw [this, List.range_succ_eq_map, List.all_cons, List.all_map]
          simp only [List.getD_cons_zero, e1, Option.getD_some, List.length_cons]
          have e3 : (xs.length + 1 == ys.length + 1) = (xs.length == ys.length) := by rw [Bool.eq_iff_iff]; simp
          rw [e3, Bool.and_assoc]
          rfl
theorem vrs_at {K : PySem.W.Frag} {ρ : List Addr} {H : Hp} : ∀ {xs : List W} {ys : List V}, VRs K ρ H xs ys → ∀ j (h1 : j < xs.length), ∃ h2 : j < ys.length, VR K ρ H xs[j] ys[j]
  | _, _, .nil, j, h => by simp at h
  | _, _, .cons q r, 0, h => ⟨by simp, q⟩
  | _, _, .cons q r, j + 1, h => by
    obtain ⟨h2, z⟩ := vrs_at r j (by simpa using h)
    exact ⟨by simpa using h2, z⟩
theorem vals_at {xs : List V} {us : List Value} (r : Vals xs us) {j : Nat} (h1 : j < xs.length) : ∃ h2 : j < us.length, RelV xs[j] us[j] := by
  obtain ⟨u, e, q⟩ := r.get (List.getElem?_eq_getElem h1)
  obtain ⟨h2, e2⟩ := List.getElem?_eq_some_iff.mp e
  exact ⟨h2, by rw [e2]; exact q⟩
section
variable {X : Cx} {N : Nm} {idc : Nat → Bool} {pins : List (Addr × Obj)} {σ : L2.St} {H : Hp} {s : Shared} {ρ : List Addr} {h : Heap}
theorem its_at {f : W → W → Option Bool} {A : Around} {xs ys : List W} {vs ws : List V} {us ts : List Value} {b : Bool} (e : zipO f xs ys = some b) (r1 : VRs X.K ρ H xs vs) (r2 : VRs X.K ρ H ys ws) (q1 : Vals vs us) (q2 : Vals ws ts)
    (hf : ∀ x y v w u t c, x ∈ xs → f x y = some c → VR X.K ρ H x v → VR X.K ρ H y w → RelV v u → RelV w t → EqAt A s u t c) :
    ∃ g : Nat → Bool, (∀ j (h1 : j < us.toArray.size) (h2 : j < ts.toArray.size), EqAt A s us.toArray[j] ts.toArray[j] (g j)) ∧ b = ((List.range (min us.toArray.size ts.toArray.size)).all g && us.toArray.size == ts.toArray.size) := by
  obtain ⟨h1, h2⟩ := zip_all e
  have l1 := r1.length
  have l2 := r2.length
  have l3 := q1.length
  have l4 := q2.length
  refine ⟨fun j => (f (xs.getD j .non) (ys.getD j .non)).getD false, fun j z1 z2 => ?_, by rw [h2]; simp only [List.size_toArray]; rw [l1, l2, l3, l4]⟩
  simp only [List.size_toArray] at z1 z2
  have y1 : j < xs.length := by omega
  have y2 : j < ys.length := by omega
  obtain ⟨c, ec⟩ := h1 j y1 y2
  obtain ⟨w1, v1⟩ := vrs_at r1 j y1
  obtain ⟨w2, v2⟩ := vrs_at r2 j y2
  obtain ⟨_, u1⟩ := vals_at q1 w1
  obtain ⟨_, u2⟩ := vals_at q2 w2
  have g1 : xs.getD j .non = xs[j] := by simp [List.getD, y1]
  have g2 : ys.getD j .non = ys[j] := by simp [List.getD, y2]
  show EqAt A s _ _ ((f (xs.getD j .non) (ys.getD j .non)).getD false)
  rw [g1, g2, ec]
  simp only [List.getElem_toArray, Option.getD_some]
  exact hf _ _ _ _ _ _ _ (List.getElem_mem y1) ec v1 v2 u1 u2
theorem zip_true {f : W → W → Option Bool} : ∀ {xs ys : List W} {vs : List V} {b : Bool}, VRs X.K ρ H xs vs → VRs X.K ρ H ys vs → (∀ x y v c, VR X.K ρ H x v → VR X.K ρ H y v → f x y = some c → c = true) → zipO f xs ys = some b → b = true
  | _, _, _, b, .nil, .nil, _, e => by cases e; rfl
  | x :: xs, y :: ys, v :: vs, b, .cons q r, .cons q' r', hf, e => by
    rw [zipO] at e
    cases e1 : f x y with
    | none => rw [e1] at e; cases e
    | some a =>
      cases e2 : zipO f xs ys with
      | none => rw [e1, e2] at e; cases e
      | some c =>
        rw [e1, e2] at e
        cases e
        rw [hf x y v a q q' e1, zip_true r r' hf e2]; rfl
theorem it_true (I : Inv X pins σ H s) (hr : HR X.K N ρ h H) : ∀ (k : Nat) (x y : W) (v : V) (b : Bool), VR X.K ρ H x v → VR X.K ρ H y v → itEq idc h k x y = some b → b = true := by
  intro k
  induction k with
  | zero =>
    intro x y v b rx ry e
    cases rx <;> cases ry <;> simp only [itEq, reduceCtorEq] at e
    case ref.ref n a p m q =>
      rw [if_pos ((ref_eq hr p q).mp rfl)] at e
      cases e; rfl
    all_goals (cases e; simp)
  | succ k ih =>
    intro x y v b rx ry e
    cases rx <;> cases ry <;> simp only [itEq, reduceCtorEq] at e
    case ref.ref n a p m q =>
      rw [if_pos ((ref_eq hr p q).mp rfl)] at e
      cases e; rfl
    case tup.tup s1 r1 _ _ r2 s2 =>
      obtain rfl := I.tuple_inj s1 s2
      exact zip_true r1 r2 ih e
    all_goals (cases e; simp)
theorem at_base (I : Inv X pins σ H s) (hr : HR X.K N ρ h H) (hi : ∀ c, idc c = true → IdC X.K (N.ca c)) (A : Around) (hu : A.units + 2 < cLine) (x y : W) (v w : V) (u t : Value) (b : Bool) (e : itEq idc h 0 x y = some b) (rx : VR X.K ρ H x v) (ry : VR X.K ρ H y w) (qx : RelV v u) (qy : RelV w t) : EqAt A s u t b := by
  cases rx <;> cases ry <;> simp only [itEq, reduceCtorEq] at e
  case non.non =>
    cases e
    obtain rfl : u = Value.none := qx
    obtain rfl : t = Value.none := qy
    exact .same _
  case bl.bl =>
    cases e
    cases qx; cases qy
    exact .bool_bool _ _
  case int.int =>
    cases e
    obtain ⟨t1, rfl⟩ := qx
    obtain ⟨t2, rfl⟩ := qy
    exact .int_int _ _ _ _
  case str.str =>
    cases e
    obtain ⟨t1, rfl⟩ := qx
    obtain ⟨t2, rfl⟩ := qy
    exact .str_str _ _ _ _
  case ref.ref n a p m c q =>
    cases qx; cases qy
    split at e
    · rename_i z
      subst z
      rw [p] at q; cases q
      cases e
      exact .same _
    · rename_i z
      split at e
      · rename_i c1 f1 c2 f2 e1 e2
        split at e
        · rename_i z2
          obtain ⟨rfl, z2⟩ := z2
          cases e
          obtain ⟨dx, fs', g1, _⟩ := ins_of hr e1 p
          obtain ⟨dy, gs', g2, _⟩ := ins_of hr e2 q
          obtain ⟨_, O1, _⟩ := ins_get I.hok g1
          obtain ⟨_, J1, _⟩ := O1.look
          obtain ⟨_, O2, _⟩ := ins_get I.hok g2
          obtain ⟨_, J2, _⟩ := O2.look
          have := eq_ins (A := A) (by omega) I.kIn J1 J2 (hi _ z2)
          rw [show decide (_ = _) = decide (n = m) from decide_eq_decide.mpr (ref_eq hr p q), decide_eq_false z] at this
          exact this
        · cases e
      · cases e
theorem itEq_base {x y : W} {k : Nat} (hn : ∀ xs ys, x = .tup xs → y = .tup ys → False) (hl : ∀ n m xs ys, x = .ref n → y = .ref m → n ≠ m → h.get n = some (.lst xs) → h.get m = some (.lst ys) → False) : itEq idc h k x y = itEq idc h 0 x y := by
  cases k with
  | zero => rfl
  | succ k =>
    cases x <;> cases y <;> first | rfl | exact (hn _ _ rfl rfl).elim | skip
    rename_i n m
    simp only [itEq]
    by_cases z : n = m
    · rw [if_pos z, if_pos z]
    · rw [if_neg z, if_neg z]
      cases e1 : h.get n with
      | none => rfl
      | some o => cases e2 : h.get m with
        | none => cases o <;> rfl
        | some p => cases o <;> cases p <;> first | rfl | exact (hl n m _ _ rfl rfl z e1 e2).elim
theorem at_it (I : Inv X pins σ H s) (hr : HR X.K N ρ h H) (hi : ∀ c, idc c = true → IdC X.K (N.ca c)) : ∀ (k : Nat) (A : Around), A.units + k + 2 < cLine → ∀ (x y : W) (v w : V) (u t : Value) (b : Bool), itEq idc h k x y = some b → VR X.K ρ H x v → VR X.K ρ H y w → RelV v u → RelV w t → EqAt A s u t b := by
  intro k
  induction k with
  | zero => exact fun A hu x y v w u t b e => at_base I hr hi A hu x y v w u t b e
  | succ k ih =>
    intro A hu x y v w u t b e rx ry qx qy
    by_cases z : ∃ xs ys, x = .tup xs ∧ y = .tup ys
    · obtain ⟨xs, ys, rfl, rfl⟩ := z
      obtain ⟨a1, rfl⟩ : ∃ a1, v = .ref a1 := by cases rx; exact ⟨_, rfl⟩
      obtain ⟨a2, rfl⟩ : ∃ a2, w = .ref a2 := by cases ry; exact ⟨_, rfl⟩
      simp only [itEq] at e
      cases rx with
      | tup s1 r1 => cases ry with
        | tup s2 r2 =>
          obtain rfl := (show u = _ from qx)
          obtain rfl := (show t = _ from qy)
          obtain ⟨is, z1, t1, _⟩ := I.tuple s1
          obtain ⟨js, z2, t2, _⟩ := I.tuple s2
          obtain ⟨g, g1, g2⟩ := its_at e r1 r2 z1 z2 fun x y v w u t c _ ec a1 a2 a3 a4 => ih A.in1 (by show A.units + 1 + k + 2 < _; omega) x y v w u t c ec a1 a2 a3 a4
          rw [g2]
          by_cases z : a1 = a2
          case neg => exact .of_refs z (.tuples t1 t2 (by omega) g1)
          case pos =>
            have : b = true := by
              subst z
              exact it_true I hr (k + 1) _ _ _ b (.tup s1 r1) (.tup s2 r2) (by simp only [itEq]; exact e)
            rw [← g2, this, z]
            exact .same _
    · by_cases z2 : ∃ n m xs ys, x = .ref n ∧ y = .ref m ∧ n ≠ m ∧ h.get n = some (.lst xs) ∧ h.get m = some (.lst ys)
      · obtain ⟨n, m, xs, ys, rfl, rfl, ne, e1, e2⟩ := z2
        simp only [itEq, if_neg ne, e1, e2] at e
        have na : ∀ a1 a2, v = .ref a1 → w = .ref a2 → a1 ≠ a2 := fun a1 a2 q1 q2 z => by
          subst q1 q2 z
          cases rx with
          | ref p => cases ry with
            | ref q => exact ne ((ref_eq hr p q).mp rfl)
        obtain ⟨p, ps, rfl, h1, z1⟩ := seqW_in hr (w := .ref n) (xs := xs) (by simp only [seqW]; exact lstAt_iff.mpr e1) rx
        obtain ⟨p', ps', rfl, h2, z2⟩ := seqW_in hr (w := .ref m) (xs := ys) (by simp only [seqW]; exact lstAt_iff.mpr e2) ry
        obtain ⟨is, q1, l1, _⟩ := I.list h1
        obtain ⟨js, q2, l2, _⟩ := I.list h2
        obtain rfl := (show u = _ from qx)
        obtain rfl := (show t = _ from qy)
        have a1 := z1.length
        have a2 := z2.length
        have a3 := q1.length
        have a4 := q2.length
        split at e
        · rename_i hl
          obtain ⟨g, g1, g2⟩ := its_at e z1 z2 q1 q2 fun x y v w u t c _ ec a1 a2 a3 a4 => ih A.in1 (by show A.units + 1 + k + 2 < _; omega) x y v w u t c ec a1 a2 a3 a4
          have hs : is.toArray.size = js.toArray.size := by simp only [List.size_toArray]; omega
          rw [hs, Nat.min_self, beq_self_eq_true, Bool.and_true, ← hs] at g2
          rw [g2]
          exact .of_refs (na _ _ rfl rfl) (.lists l1.isList l2.isList hs (by omega) g1)
        · rename_i hl
          cases e
          exact .of_refs (na _ _ rfl rfl) (.lists_lengths l1.isList l2.isList (by simp only [List.size_toArray, bne_iff_ne, ne_eq]; omega) (by omega))
      · rw [itEq_base (fun xs ys e1 e2 => z ⟨xs, ys, e1, e2⟩) fun n m xs ys e1 e2 e3 e4 e5 => z2 ⟨n, m, xs, ys, e1, e2, e3, e4, e5⟩] at e
        exact at_base I hr hi A (by omega) x y v w u t b e rx ry qx qy
def rLst (K : PySem.W.Frag) (N : Nm) (idc : Nat → Bool) (neg : Bool) : R2 := fun v u H Q => ∃ (ρ : List Addr) (h : Heap) (x y : W) (b : Bool), HR K N ρ h H ∧ VR K ρ H x v ∧ VR K ρ H y u ∧ lstEq idc h x y = some b ∧ Q (.bl (if neg then !b else b)) H
theorem op_lst {neg : Bool} (hi : ∀ c, idc c = true → IdC X.K (N.ca c)) (hu : X.A.units + 64 < cLine) : OpR X (compareOp (if neg then .NotEq else .Eq)) (rLst X.K N idc neg) := by
  intro pins s σ H x y v u Q I rx ry h
  obtain ⟨ρ, h, w1, w2, b, hr, r1, r2, e, q⟩ := h
  have key : ∀ (xs ys : List W) (vs ws : List V) (us ts : List Value), zipO (itEq idc h 5) xs ys = some b → VRs X.K ρ H xs vs → VRs X.K ρ H ys ws → Vals vs us → Vals ws ts →
      ∃ g : Nat → Bool, (∀ j (h1 : j < us.toArray.size) (h2 : j < ts.toArray.size), EqAt X.A.in1 s us.toArray[j] ts.toArray[j] (g j)) ∧ b = ((List.range (min us.toArray.size ts.toArray.size)).all g && us.toArray.size == ts.toArray.size) :=
    fun xs ys vs ws us ts e r1 r2 q1 q2 => its_at e r1 r2 q1 q2 fun x y v w u t c _ ec a1 a2 a3 a4 => at_it I hr hi 5 X.A.in1 (by show X.A.units + 1 + 5 + 2 < _; omega) x y v w u t c ec a1 a2 a3 a4
  have fin : EP X pins σ Q (.bool (if neg then !b else b)) s := ⟨.bl _, H, I, rfl, q⟩
  unfold lstEq at e
  split at e
  · rename_i n m
    split at e
    · rename_i xs ys e1 e2
      obtain ⟨p, ps, rfl, h1, z1⟩ := seqW_in hr (w := .ref n) (xs := xs) (by simp only [seqW]; exact lstAt_iff.mpr e1) r1
      obtain ⟨p', ps', rfl, h2, z2⟩ := seqW_in hr (w := .ref m) (xs := ys) (by simp only [seqW]; exact lstAt_iff.mpr e2) r2
      obtain ⟨is, q1, l1, _⟩ := I.list h1
      obtain ⟨js, q2, l2, _⟩ := I.list h2
      obtain rfl := (show v = _ from rx)
      obtain rfl := (show u = _ from ry)
      have a1 := z1.length
      have a2 := z2.length
      have a3 := q1.length
      have a4 := q2.length
      split at e
      · rename_i hl
        obtain ⟨g, g1, g2⟩ := key _ _ _ _ _ _ e z1 z2 q1 q2
        have hs : is.toArray.size = js.toArray.size := by simp only [List.size_toArray]; omega
        rw [hs, Nat.min_self, beq_self_eq_true, Bool.and_true] at g2
        cases neg with
        | false => exact RcAt.lists l1.isList l2.isList hs (by omega) g1 X.prog X.w _ _ (by rw [hs, ← g2]; exact fin)
        | true => exact RcNeAt.lists l1.isList l2.isList hs (by omega) g1 X.prog X.w _ _ (by rw [hs, ← g2]; exact fin)
      · rename_i hl
        cases e
        have hs : (is.toArray.size != js.toArray.size) = true := by simp only [List.size_toArray, bne_iff_ne, ne_eq]; omega
        cases neg with
        | false => exact RcAt.lists_lengths l1.isList l2.isList hs (by omega) X.prog X.w _ _ fin
        | true => exact RcNeAt.lists_lengths l1.isList l2.isList hs (by omega) X.prog X.w _ _ fin
    · cases e
  · rename_i xs ys
    cases r1 with
    | tup s1 z1 => cases r2 with
      | tup s2 z2 =>
        obtain ⟨is, q1, l1, _⟩ := I.tuple s1
        obtain ⟨js, q2, l2, _⟩ := I.tuple s2
        obtain rfl := (show v = _ from rx)
        obtain rfl := (show u = _ from ry)
        obtain ⟨g, g1, g2⟩ := key _ _ _ _ _ _ e z1 z2 q1 q2
        cases neg with
        | false => exact RcAt.tuples l1 l2 (by omega) g1 X.prog X.w _ _ (by rw [← g2]; exact fin)
        | true => exact RcNeAt.tuples l1 l2 (by omega) g1 X.prog X.w _ _ (by rw [← g2]; exact fin)
  · cases e
theorem ok_eqL (hi : ∀ c, idc c = true → IdC X.K (N.ca c)) (hu : X.A.units + 64 < cLine) : OpOk X N (compareOp .Eq) (wEqL idc) := by
  obtain ⟨r, h1, h2⟩ := ok_eqI (X := X) (N := N) hi hu
  refine ⟨_, (op_lst (neg := false) hi hu).or h1, fun ρ h H x y v u Q E hr rx ry o => ?_⟩
  unfold wEqL at o
  cases e : lstEq idc h x y with
  | some b => rw [e] at o; exact .inl ⟨ρ, h, x, y, b, hr, rx, ry, e, o.val hr (.bl _)⟩
  | none => rw [e] at o; exact .inr (h2 ρ h H x y v u Q E hr rx ry o)
theorem ok_neL (hi : ∀ c, idc c = true → IdC X.K (N.ca c)) (hu : X.A.units + 64 < cLine) : OpOk X N (compareOp .NotEq) (wNeL idc) := by
  obtain ⟨r, h1, h2⟩ := ok_neI (X := X) (N := N) hi hu
  refine ⟨_, (op_lst (neg := true) hi hu).or h1, fun ρ h H x y v u Q E hr rx ry o => ?_⟩
  unfold wNeL at o
  cases e : lstEq idc h x y with
  | some b => rw [e] at o; exact .inl ⟨ρ, h, x, y, b, hr, rx, ry, e, o.val hr (.bl _)⟩
  | none => rw [e] at o; exact .inr (h2 ρ h H x y v u Q E hr rx ry o)
end
section
variable {h : Heap} {Q : W → Heap → Prop} {E : Nat → List (Nat × W) → Heap → Prop} {idc : Nat → Bool}
theorem o_eqL {x y : W} : (wEqL idc x y h).to Q E ↔ ∃ b, orO (lstEq idc h x y) (orO (idEq idc h x y) (eqO h x y)) = some b ∧ Q (.bl b) h := by unfold wEqL; rw [ofO_to]; simp
theorem o_neL {x y : W} : (wNeL idc x y h).to Q E ↔ ∃ b, orO (lstEq idc h x y) (orO (idEq idc h x y) (eqO h x y)) = some b ∧ Q (.bl (!b)) h := by unfold wNeL; rw [ofO_to]; simp
theorem zip_same {f : W → W → Option Bool} : ∀ {xs : List W}, (∀ x ∈ xs, f x x = some true) → zipO f xs xs = some true
  | [], _ => rfl
  | x :: xs, hx => by
    rw [zipO, hx x (by simp), zip_same fun y m => hx y (by simp [m])]; rfl
/-- items that are equal to themselves -/
def flatW : W → Bool
  | .ref _ | .non | .bl _ | .int _ | .str _ => true
  | _ => false
theorem it_same {k : Nat} {x : W} (hx : flatW x = true) : itEq idc h k x x = some true := by
  cases k <;> cases x <;> simp [flatW, itEq] at hx ⊢
theorem lst_same {n m : Nat} {xs : List W} (e1 : h.get n = some (.lst xs)) (e2 : h.get m = some (.lst xs)) (hx : ∀ x ∈ xs, flatW x = true) : lstEq idc h (.ref n) (.ref m) = some true := by
  simp only [lstEq, e1, e2, if_true]
  exact zip_same fun x mx => it_same (hx x mx)
theorem it_lst {k n m : Nat} {xs : List W} (e1 : h.get n = some (.lst xs)) (e2 : h.get m = some (.lst xs)) (hx : ∀ x ∈ xs, itEq idc h k x x = some true) : itEq idc h (k + 1) (.ref n) (.ref m) = some true := by
  by_cases z : n = m
  · simp only [itEq, if_pos z]
  · simp only [itEq, if_neg z, e1, e2, if_true]
    exact zip_same hx
theorem it_tup {k : Nat} {xs : List W} (hx : ∀ x ∈ xs, itEq idc h k x x = some true) : itEq idc h (k + 1) (.tup xs) (.tup xs) = some true := by
  simp only [itEq]; exact zip_same hx
theorem eqL_same {n m : Nat} {xs : List W} (e1 : h.get n = some (.lst xs)) (e2 : h.get m = some (.lst xs)) (hx : ∀ x ∈ xs, flatW x = true) (q : Q (.bl true) h) : (wEqL idc (.ref n) (.ref m) h).to Q E := by
  rw [o_eqL, lst_same e1 e2 hx]; exact ⟨true, rfl, q⟩
theorem neL_same {n m : Nat} {xs : List W} (e1 : h.get n = some (.lst xs)) (e2 : h.get m = some (.lst xs)) (hx : ∀ x ∈ xs, flatW x = true) (q : Q (.bl false) h) : (wNeL idc (.ref n) (.ref m) h).to Q E := by
  rw [o_neL, lst_same e1 e2 hx]; exact ⟨true, rfl, q⟩
end
end Ev
set_option maxRecDepth 100000
set_option maxHeartbeats 1000000
/-! EvNon: None == an instance. -/
namespace Ev
open PySem L2 PyProof.Rows PySem.SeqAt PySem.Spec
/-- an instance class that is no NoneType -/
structure IdN (K : PySem.W.Frag) (C : Addr) : Prop where
  id : IdC K C
  nn : PySem.W.mroIn K C (.type "NoneType") = some false
def nonB (x : Str) (K : PySem.W.Frag) : Bool := decide (PySem.W.mroIn K (He.ga K x) (.type "NoneType") = some false)
theorem nonB_ok {K : PySem.W.Frag} {x : Str} (c : (Fc.chk (nonB x)).ok K = true) : PySem.W.mroIn K (He.ga K x) (.type "NoneType") = some false := of_decide_eq_true (show nonB x K = true from c)
section
variable {M : Model} {prog : Program} {w : World} {A : Around} {E : Value → Shared → Prop} {s : Shared} {K : PySem.W.Frag} {x C : Addr} {ox : Obj} {od : Option Obj}
theorem entry_eqN {Q : PySem.Fin → Shared → Prop} (hq : Q (.done (.ret .notImplemented)) s) : wpAny M A (Builtin.«object.__eq__» ⟨[.ref x, .none], []⟩) Q E s := by
  unfold Builtin.«object.__eq__»
  repeat (first | wp_step)
  exact hq
theorem call_eqN (X : K.In s.heap) (I : PySem.W.InstAt s.heap x ox C od) (k : IdC K C) {Q : Value → Shared → Prop} (hq : Q .notImplemented s) : wpAny (model prog w) A (call (.builtin "object.__eq__") [.ref x, .none]) Q E s :=
  wpAny_call (codeAny_call_builtin F.cmp_object.eq.plain F.cmpEntry_eq (PySem.W.check_slot F.cmpKind_eq F.cmpSplit_eq (I.type.andThen (PySem.W.looks_mroIn X k.mro)) (F.cmpArgs_eq _ _) (entry_eqN hq)))
theorem tryN (X : K.In s.heap) (I : PySem.W.InstAt s.heap x ox C od) (k : IdC K C) {Q : Option Value → Shared → Prop} (hq : Q none s) : wpAny (model prog w) A (tryCompare (.ref x) "__eq__" .none) Q E s := by
  unfold tryCompare
  exact wpAny_bind (HN.ifBound_objEq X I k.eq (call_eqN X I k (wpAny_pure hq)))
theorem rc_non (hu : A.units < cLine) (X : K.In s.heap) (I : PySem.W.InstAt s.heap x ox C od) (k : IdN K C) : RcAt A s .none (.ref x) false := fun prog w E Q h => by
  simp only [richCompare, cmpInfo_Eq, (show s.TypeIs .none "NoneType" from rfl).oneThing_none]
  refine wpAny_holding (wpAny_bind (wpAny_cRoomFor hu ?_))
  refine wpAny_bind (wpAny_typeOf (show s.TypeIs .none "NoneType" from rfl) (wpAny_bind (I.type.here ?_)))
  have e : (Value.type "NoneType" != Value.ref C) = true := rfl
  simp only [e, if_true]
  refine wpAny_bind ((PySem.W.looks_mroIn X k.nn).here ?_)
  simp only [Bool.false_eq_true, if_false, Bool.not_false, if_true]
  refine wpAny_bind (m := tryCompare .none _ (.ref x)) (wpAny_tryCompare_declines (show s.TypeIs .none "NoneType" from rfl) F.slot_NoneType_eq (have dec : ∀ Q' : Value → Shared → Prop, Q' .notImplemented s → wpAny (model prog w) A (call (.builtin "NoneType.__eq__") [.none, .ref x]) Q' E s := fun _ hq => call_gives F.slot_NoneType_eq rfl F.entry_NoneType_eq (F.args_NoneType_eq_2 _ _) (NoneType___eq___none_ref_0 x) hq; dec _ ⟨rfl, ?_⟩))
  refine wpAny_bind (m := tryCompare (.ref x) _ .none) (tryN X I k.id ?_)
  exact wpAny_bind (wpAny_rule (wpAny_bind (wpAny_of_eq (rfl : isSame .none (.ref x) = pure false) (wpAny_pure h))))
end
def nonEq (idc : Nat → Bool) (h : Heap) : W → W → Option Bool
  | .non, .ref m => match h.get m with
    | some (.ins d _) => if idc d = true then some false else none
    | _ => none
  | _, _ => none
def wEqN (idc : Nat → Bool) (x y : W) (h : Heap) : R := ofO false (orO (nonEq idc h x y) (orO (lstEq idc h x y) (orO (idEq idc h x y) (eqO h x y)))) h
def rNon (K : PySem.W.Frag) (N : Nm) (idc : Nat → Bool) : R2 := fun v u H Q => ∃ (ρ : List Addr) (h : Heap) (x y : W) (b : Bool), HR K N ρ h H ∧ VR K ρ H x v ∧ VR K ρ H y u ∧ nonEq idc h x y = some b ∧ Q (.bl b) H
section
variable {X : Cx} {N : Nm} {idc : Nat → Bool}
theorem op_non (hi : ∀ c, idc c = true → IdN X.K (N.ca c)) (hu : X.A.units + 64 < cLine) : OpR X (compareOp .Eq) (rNon X.K N idc) := by
  intro pins s σ H x y v u Q I rx ry hh
  obtain ⟨ρ, h, w1, w2, b, hr, r1, r2, e, q⟩ := hh
  unfold nonEq at e
  split at e
  · rename_i m
    split at e
    · rename_i d fs e1
      split at e
      · rename_i z
        cases e
        cases r1
        cases r2 with
        | ref p =>
          obtain rfl := (show v = _ from rx)
          obtain rfl := (show u = _ from ry)
          obtain ⟨dx, fs', g1, _⟩ := ins_of hr e1 p
          obtain ⟨_, O1, _⟩ := ins_get I.hok g1
          obtain ⟨_, J1, _⟩ := O1.look
          exact rc_non (by omega) I.kIn J1 (hi _ z) X.prog X.w _ _ ⟨.bl _, H, I, rfl, q⟩
      · cases e
    · cases e
  · cases e
theorem ok_eqN (hi : ∀ c, idc c = true → IdN X.K (N.ca c)) (hu : X.A.units + 64 < cLine) : OpOk X N (compareOp .Eq) (wEqN idc) := by
  obtain ⟨r, h1, h2⟩ := ok_eqL (X := X) (N := N) (fun c e => (hi c e).id) hu
  refine ⟨_, (op_non hi hu).or h1, fun ρ h H x y v u Q E hr rx ry o => ?_⟩
  unfold wEqN at o
  cases e : nonEq idc h x y with
  | some b => rw [e] at o; exact .inl ⟨ρ, h, x, y, b, hr, rx, ry, e, o.val hr (.bl _)⟩
  | none => rw [e] at o; exact .inr (h2 ρ h H x y v u Q E hr rx ry o)
end
section
variable {h : Heap} {Q : W → Heap → Prop} {E : Nat → List (Nat × W) → Heap → Prop} {idc : Nat → Bool}
theorem o_eqN {x y : W} : (wEqN idc x y h).to Q E ↔ ∃ b, orO (nonEq idc h x y) (orO (lstEq idc h x y) (orO (idEq idc h x y) (eqO h x y))) = some b ∧ Q (.bl b) h := by unfold wEqN; rw [ofO_to]; simp
end
end Ev
set_option maxRecDepth 100000
set_option maxHeartbeats 1000000
/-! EvGL: list(g) of a generator that may call defs. -/
namespace Ev
open PySem L2 PySem.Spec PyProof.Rows GenW
def conL : Con := fun ws w h => some (ws ++ [w], h)
def eListG (G : Con → Ls → Heap → GD) : SE := fun ls h => match G conL ls h with
  | .ok a h' => .ok (.ref h'.nx) (h'.new (.lst a.ws))
  | _ => .bad
/-- the list that is filled -/
def gcL (K : PySem.W.Frag) (S : Addr) : GCon K where
  T := [S]
  c := conL
  CI := fun a ρ H tp => ∃ arr c ys, tp = [(S, lstObj arr c)] ∧ Vals ys arr.toList ∧ VRs K ρ H a.ws ys ∧ arr.size ≤ a.k
  st := fun ⟨arr, c, ys, h1, h2, h3, h4⟩ ex => ⟨arr, c, ys, h1, h2, h3.ex ex, h4⟩
section
variable {P : Program} {w : World} {K : PySem.W.Frag} {N : Nm} {outer : List Env} {H : Hp} {sc : Shared} {ρ : List Addr} {g : Nat} {S ga : Addr} {r : GD}
/-- the end of the filling -/
def FilledE (P : Program) (w : World) (K : PySem.W.Frag) (N : Nm) (outer : List Env) (H : Hp) (sc : Shared) (ρ : List Addr) (S : Addr) (r : GD) (s' : Shared) : Prop :=
  ∃ a h' ρ' H' acc c ys, r = .ok a h' ∧ s'.heap.get? S = some (lstObj acc c) ∧ Vals ys acc.toList ∧ ys.length ≤ sizeLine ∧ s'.os = sc.os ∧ AllBare s'.gens ∧ Un (frs outer) [] H H' sc.heap s'.heap ∧ HOk P w H' s'.heap ∧ H' S = none ∧ Ex ρ ρ' H H' ∧ HR K N ρ' h' H' ∧ VRs K ρ' H' a.ws ys
theorem drainE {Ar : Around} {Rq : Result → Shared → Prop} {res : Value} (hh : Ar.handled = none) (hd : Ar.depth < recursionLimit) (hSa : S ≠ ga) (hSc : S ≠ cStatics) (hSs : sc.heap.objs.size ≤ S)
    (hend : ∀ s', FilledE P w K N outer H sc ρ S r s' → Rq (.ok (.ret res)) s') :
    ∀ (m : Nat) (s : Shared), s.heap.IsGen ga g → s.heap.NoLimit →
      (∃ gs, s.gens[g]? = some gs ∧ gs.Goes (model P w) Ar.in1.in1 (REE P w K N (gcL K S) outer H sc ρ NoX ga g r) (YE P w K N (gcL K S) outer H sc ρ ga g) m (.send .none) (s.setGen g .running)) →
      codeAny (model P w) Ar (.builtin "list.extend.loop" ⟨[.ref S, .ref ga, res], []⟩) Rq s := by
  intro m
  induction m using Nat.strongRecOn with
  | _ m ih =>
    intro s hg hl hx
    obtain ⟨gs, hgs, hgo⟩ := hx
    have hgl : g < s.gens.size := (Array.getElem?_eq_some_iff.mp hgs).1
    refine codeAny_builtin F.entry_extend_loop ?_; rw [Around.under_plainId F.plain_extend_loop _]; show wpAny _ Ar.in1 (pyNext (.ref ga) >>= _) _ _ s
    refine wpAny_bind (wpAny_gsz (n := g + 1) hgl (next_genG (A := Ar.in1) (F := fun n _ s1 => ∃ a h' ρ' H' tp, r = .ok a h' ∧ Ex ρ ρ' H H' ∧ HR K N ρ' h' H' ∧ tp.map (·.1) = (gcL K S).T ∧ (gcL K S).CI a ρ' H' tp ∧ n + a.k = sizeLine ∧ s1.os = sc.os ∧ AllBare s1.gens ∧ Un (frs outer) [] H H' sc.heap s1.heap ∧ HOk P w H' s1.heap ∧ ∀ p ∈ tp, s1.heap.get? p.1 = some p.2 ∧ H' p.1 = none)
      (Er := fun e s1 => CX P w outer H sc NoX e s1 ∧ s1.heap.IsGen ga g) hh hl hd hg hgs (by exact hgo) (fun v s1 gs' hbare hv hsz => ?_) (fun s1 hp h' hk hsz => ?_) fun e s1 he => ?_))
    · obtain ⟨a, wv, x, hh', ρ5, H5, tp, gp, q1, rv5, rw5, r5, ex5, hT5, ⟨arr, cc, ys, et, va, vr, hasz⟩, os5, b5, un5, hok5, nl5, gen5, pin5, gpT, ⟨go, hgo5⟩, ws', h2', ec, kk⟩ := hv
      subst et
      have ew : (a.ws ++ [wv], hh') = (ws', h2') := Option.some.inj ec
      cases ew
      have pS := pin5 (S, lstObj arr cc) (by simp)
      have hs1 : g < s1.gens.size := by
        have q : (s1.setGen g gs').gens.size = s1.gens.size := setGen_size _ _ _
        have hsz' : g + 1 ≤ (s1.setGen g gs').gens.size := hsz
        omega
      have hfit : arr.size < sizeLine := by omega
      show wpAny (model P w) Ar.in1 (updateSeq S (·.push v) >>= _) _ _ _
      refine wpAny_bind (wpAny_updateSeq pS.1 rfl (wpAny_pure ⟨plainId_quiet F.plain_extend_loop _, ?_⟩) (Nat.le_of_lt hfit) (by show (arr.push v).size ≤ sizeLine + 1; rw [Array.size_push]; omega))
      obtain ⟨c2, eS⟩ : ∃ c2, (s1.heap.update S (Obj.mapSeq (·.push v))).get? S = some (lstObj (arr.push v) c2) := ⟨_, Heap.get?_update_self (Obj.mapSeq (·.push v)) (show s1.heap.get? S = some (lstObj arr cc) from pS.1) rfl⟩
      have other : ∀ b o, b ≠ S → s1.heap.get? b = some o → (s1.heap.update S (Obj.mapSeq (·.push v))).get? b = some o := fun b o hb e => (Heap.get?_update_other _ _ (Ne.symm hb)).trans e
      obtain ⟨hp2, hh2⟩ : ∃ hp2, s1.heap.update S (Obj.mapSeq (·.push v)) = hp2 := ⟨_, rfl⟩
      rw [hh2] at eS other
      have nt : ∀ b u, H5 b = some u → b ≠ S := fun b u q hb => by rw [hb, pS.2.1] at q; cases q
      have old : ∀ b o, sc.heap.get? b = some o → b ≠ S := fun b o e hb => by
        have h1 := Heap.lt_size e
        rw [hb] at h1
        exact absurd (Nat.lt_of_lt_of_le h1 hSs) (Nat.lt_irrefl _)
      have un2 : Un (frs outer) [] H H5 sc.heap hp2 := ⟨fun b o e hn hb hx => other b o (old b o e) (un5.keep b o e hn hb hx), fun b o e hn hb hx => by
          obtain ⟨sl, e1⟩ := un5.slot b o e hn hb hx
          exact ⟨sl, other b _ (old b o e) e1⟩, un5.free, fun b o e hx => by
          obtain ⟨o', e1⟩ := un5.there b o e hx
          exact ⟨o', other b _ (old b o e) e1⟩, un5.tups, un5.frzs, un5.tbls⟩
      have hok2 : HOk P w H5 hp2 := fun b u e => (hok5 b u e).stay (fun c v hc y => other c v (by
          rcases hc with y | y
          · rw [y]; exact nt b u e
          · exact nt c _ y) y) (fun _ y => y) fun _ _ y => y
      have kp := kk ({ s1.setGen g gs' with heap := hp2 }.setGen g .running) ρ5 H5 [(S, lstObj (arr.push v) c2)] os5 (allBare_setGen (s := { s1.setGen g gs' with heap := hp2 }) (allBare_setGen (s := s1) b5 hbare) rfl) un2 hok2 (Ex.refl _ _) r5 rfl
        ⟨arr.push v, c2, ys ++ [x], rfl, by rw [Array.toList_push]; exact va.append (.cons rv5 .nil), vr.append (.cons rw5 .nil), by rw [Array.size_push]; exact Nat.succ_le_succ hasz⟩
        (fun p hp => by
          rcases List.mem_append.mp hp with y | y
          · rw [List.mem_singleton.mp y]; exact ⟨eS, pS.2.1⟩
          · have q := pin5 p (List.mem_append_right _ y)
            exact ⟨other p.1 p.2 (fun e => gpT p y (by rw [e]; exact List.mem_singleton.mpr rfl)) q.1, q.2.1⟩)
        (fun p hp => by rw [List.mem_singleton.mp hp]; exact fun v z => by cases z) .none (.inl rfl)
      cases m with
      | zero => exact kp.elim
      | succ m =>
        subst hh2
        refine ih m (Nat.lt_succ_self _) _ ?_ ?_ ⟨gs', setGen_at hs1, kp⟩
        · obtain ⟨o, nm, qn, ho, z⟩ := gen5
          exact ⟨o, nm, qn, other ga o (Ne.symm hSa) ho, z⟩
        · obtain ⟨mc, hns, hnn⟩ := nl5
          exact ⟨mc, hns.at' fun o e => other _ o (Ne.symm hSc) e, hnn⟩
    · obtain ⟨a, h2, ρ', H', tp, er, ex, hrr, hT, ⟨arr, cc, ys, et, va, vr, hasz⟩, hk0, os, hb', un, hok, pins'⟩ := hp
      subst et
      have pS := pins' (S, lstObj arr cc) (by simp)
      refine wpAny_pure (hend _ ⟨a, h2, ρ', H', arr, cc, ys, er, hk _ _ pS.1, va, ?_, os, allBare_setGen hb' rfl, un.trans (Un.kept hk), hok.kept hk, pS.2, ex, hrr, vr⟩)
      have e1 := va.length
      have e2 : arr.toList.length = arr.size := by simp
      omega
    · obtain ⟨⟨_, _, _, _, _, _, _, _, _, _, _, _, hW⟩, _⟩ := he
      exact hW.elim
theorem call_listE {k : Nat} {Fg : Con → List W → Heap → GD} {h h0 : Heap} {ws : List W} {a0 : GA} {u : Value} {s s' : Shared} {Ar : Around} {Q' : Value → Shared → Prop} {E : Value → Shared → Prop} (hr : Room (k + 3) Ar) (hgu : Ar.guards = some []) (hfr : Ar.frames = some outer) (hM : GMadeE P w K N k outer H s ρ h ws Fg u s') (eF : Fg conL ws h = .ok a0 h0)
    (hQ : ∀ S s2, s'.heap.objs.size ≤ S → FilledE P w K N outer H s ρ S (.ok a0 h0) s2 → Q' (.ref S) s2) : wpAny (model P w) Ar (call (.type "list") [u]) Q' E s' := by
  obtain ⟨ga, g, c, rfl, ha1, ha2, hg, hgs, hos, hb, hl, hkp, wake⟩ := hM
  have hSa : s'.heap.objs.size ≠ ga := Nat.ne_of_gt ha2
  have hcl : cStatics < s'.heap.objs.size := let ⟨_, hn, _⟩ := hl; hn.lt
  have hSc : s'.heap.objs.size ≠ cStatics := Nat.ne_of_gt hcl
  refine callType_codes (Q₁ := fun obj s1 => obj = .ref s'.heap.objs.size ∧ s1 = { s' with heap := s'.heap.push { cls := .type "list", data := .seq #[] } }) F.called_list (F.typeCall_list_1 _) F.entry_list_init (code_list_new _ ⟨rfl, rfl⟩) fun obj s1 h1 => ?_
  obtain ⟨rfl, rfl⟩ := h1
  have e1 : (s'.heap.push { cls := .type "list", data := .seq #[] }).get? s'.heap.objs.size = some { cls := .type "list", data := .seq #[] } := Heap.get?_push_size _ rfl
  refine ⟨⟨_, e1, rfl⟩, F.args_list_init_2 _ _, ?_⟩
  show wpAny _ Ar.in1.in1 (do let old ← Builtin.List.listItems (.ref s'.heap.objs.size); Builtin.List.listUpdate (.ref s'.heap.objs.size) (fun _ => #[]); letGo old.toList.reverse; Builtin.List.listExtendWith (.ref s'.heap.objs.size) (.ref ga) .none) _ _ _
  refine wpAny_bind ?_
  unfold Builtin.List.listItems; refine wpAny_bind (wpAny_seqItems e1 rfl (wpAny_pure ?_))
  show wpAny _ Ar.in1.in1 (updateSeq s'.heap.objs.size (fun _ => #[]) >>= fun _ => letGo (#[] : Array Value).toList.reverse >>= fun _ => Builtin.List.listExtendWith (.ref s'.heap.objs.size) (.ref ga) .none) _ _ _
  refine wpAny_bind (wpAny_updateSeq e1 rfl ?_)
  have e2 := Heap.get?_update_self (Obj.mapSeq (fun _ => (#[] : Array Value))) e1 rfl
  refine wpAny_bind (wpAny_letGo ?_); unfold Builtin.List.listExtendWith
  have upk : ∀ (hp : PySem.Heap) (f : Obj → Obj), (∀ b o, s'.heap.get? b = some o → hp.get? b = some o) → ∀ b o, s'.heap.get? b = some o → (hp.update s'.heap.objs.size f).get? b = some o := fun hp f q b o e =>
    (Heap.get?_update_other _ _ (Ne.symm (Nat.ne_of_lt (Heap.lt_size e)))).trans (q b o e)
  have k1 : ∀ b o, s'.heap.get? b = some o → (s'.heap.push { cls := .type "list", data := .seq #[] }).get? b = some o := fun b o e => Heap.get?_push_of_some _ e
  have k2 := upk _ (Obj.mapSeq (fun _ => (#[] : Array Value))) k1
  have gty : ∀ {hp : PySem.Heap}, (∀ b o, s'.heap.get? b = some o → hp.get? b = some o) → hp.IsGen ga g := fun {hp} q => hg.keeps q
  refine wpAny_bind (wpAny_typeOf (Heap.IsGen.typeIs (s := { s' with heap := _ }) (gty k2)) ?_)
  have h1 : Builtin.List.listSameRef (.ref s'.heap.objs.size) (.ref ga) = false := by simp [Builtin.List.listSameRef, hSa]
  have h2 : (Value.type "generator" == Value.type "list") = false ∧ (Value.type "generator" == Value.type "tuple") = false := by decide
  simp only [h1, h2.1, h2.2, Bool.or_false, Bool.false_eq_true, if_false]
  refine wpAny_bind (wpAny_pyIter_gen (s := { s' with heap := _ }) (gty k2) ?_); refine wpAny_bind (wpAny_holding ?_)
  unfold Builtin.List.listLengthHint; refine wpAny_bind (wpAny_specialOf (Heap.IsGen.typeIs (s := { s' with heap := _ }) (gty k2)) F.gen_no_len ?_)
  show wpAny _ Ar.in1.in1 (specialOf (Value.ref ga) (Str.ofString "__length_hint__") >>= _) _ _ _
  refine wpAny_bind (wpAny_specialOf (Heap.IsGen.typeIs (s := { s' with heap := _ }) (gty k2)) F.gen_no_hint ?_)
  refine wpAny_pure ?_
  show wpAny _ Ar.in1.in1 (rule "list.extend.makes-room" >>= fun _ => Builtin.List.listTouch (.ref s'.heap.objs.size) >>= fun _ => again (.builtin "list.extend.loop" ⟨[.ref s'.heap.objs.size, .ref ga, .none], []⟩)) _ _ _
  refine wpAny_bind (wpAny_rule ?_); refine wpAny_bind ?_
  show wpAny _ Ar.in1.in1 (updateSeq s'.heap.objs.size (·.push .none) >>= fun _ => updateSeq s'.heap.objs.size (·.pop)) _ _ _
  refine wpAny_bind (wpAny_updateSeq e2 rfl ?_)
  have e3 := Heap.get?_update_self (Obj.mapSeq (·.push Value.none)) e2 rfl
  refine wpAny_updateSeq (hz := by seq_fits) e3 rfl ?_
  have e4 := Heap.get?_update_self (Obj.mapSeq (·.pop)) e3 rfl
  have k4 := upk _ (Obj.mapSeq (·.pop)) (upk _ (Obj.mapSeq (·.push Value.none)) k2)
  refine wpAny_pure ⟨plainId_quiet F.plain_extend_loop _, ?_⟩
  refine drainE (N := N) (ρ := ρ) (r := .ok a0 h0) (Ar := Ar.in1) (g := g) hr.hd (by have := hr.dp; show Ar.depth < _; omega) hSa hSc (Nat.le_trans ha1 (Nat.le_of_lt ha2)) (fun s2 hf => ⟨rfl, hQ _ s2 (Nat.le_refl _) hf⟩) sizeLine _ (gty k4) (hl.keeps k4) ⟨_, hgs, rfl, ?_⟩
  rw [← eF]
  refine wake _ (gcL K s'.heap.objs.size) NoX _ [(s'.heap.objs.size, lstObj #[] _)] ⟨hr.hd, ?_, ?_⟩ hgu hfr (fun t ht => by rw [List.mem_singleton.mp ht]; exact Nat.le_refl _) k4 rfl (fun p hp => by rw [List.mem_singleton.mp hp]; exact ⟨e4, fun v z => by cases z⟩) ⟨#[], _, [], rfl, .nil, .nil, Nat.le_refl _⟩ hos (allBare_setGen (s := { s' with heap := _ }) hb rfl) (by show GDok K N ρ H NoX (Fg conL ws h); rw [eF]; trivial)
  · have := hr.dp
    show Ar.depth + 3 * k + 5 < _
    omega
  · have := hr.un
    show Ar.units + 1 + 1 + 1 + 16 * k + 200 < _
    omega
end
section
variable {X : Cx} {N : Nm} {Wx : WX} {pos p : Pos} {e : PySem.Expr} {kws : List Keyword} {hs : SEs} {k : Nat} {x : Str} {st : Stmt} {ps ks : List Str} {F : Con → List W → Heap → GD} {sel : List (Bool × Nat)} {fa : Addr}
/-- g(k = ..) -/
theorem pge_call0 (hm : X.mg x = some (.ref fa)) (D : GdOk X.prog X.w X.K X.mg X.base N k fa x x st ps F) (bd : BdQ x x st ps 0 ks sel) (hr : Room k X.A) (hln : ∀ (xs ys : List W), xs.length = 0 → ys.length = ks.length → (pick sel xs ys).length = ps.length) (hkw : PK X kws (LA X.K N Wx hs)) (hg : Gl X x := by rfl)
    (hall : (backToKw pos (keywordEach kws X.env)).all (·.1.isSome) = true := by rfl) (hks : (backToKw pos (keywordEach kws X.env)).filterMap (·.1) = ks := by rfl) (hdb : (x == ("__debug__" : Str)) = false := by decide)
    (hpl : ((backTo pos (starEach [] X.env)).any (·.1) || (backToKw pos (keywordEach kws X.env)).any (·.1.isNone)) = false := by rfl) :
    PGe X N Wx k (.Call (.Name x p) [] kws pos) (gCall (fun c xs ys h => F c (pick sel xs ys) h) 0 ks.length aNil hs) := by
  obtain ⟨fd, h2, h3⟩ := D.ex
  refine ⟨fun pins s σ H ρ ls h c I l hh nb ne => ?_⟩
  refine wpAny_Call_Name_kw (ld_glob I hg hm ?_ hdb)
  have pre2 : LA X.K N Wx hs σ H fun zs H2 => ∃ ρ2 ys h2, hs ls h = .ok ys h2 ∧ Ex ρ ρ2 H H2 ∧ HR X.K N ρ2 h2 H2 ∧ VRs X.K ρ2 H2 ys zs := by
    refine ⟨ρ, ls, h, l, hh, ga_exc (X := X) (fun z => ?_) fun cl fs h' z ρ' H' d ex => ?_⟩
    · exact nb (by unfold gCall aNil; simp only; rw [z])
    · exact ne cl fs h' (by unfold gCall aNil; simp only; rw [z]) ρ' H' d ex
  refine PySem.W.callWith_KW0 (h₀ := X.base) I.ok.mod.kin h2.kp hall (thn (hkw.run pos pins s σ H _ I pre2) fun ws s2 hz => ?_) hpl
  obtain ⟨zs, H2, I2, rz, ρ2, ys, h2', e2, ex2, r2, ry⟩ := hz
  refine ⟨I2.kIn, ?_⟩
  rw [hks]
  have hnm : ys.length = ks.length := by
    have z := nb
    unfold gCall aNil at z
    simp only at z; rw [e2] at z; simp only at z
    split at z
    · rename_i q; exact q.2
    · exact (z rfl).elim
  obtain ⟨gg, b1, b2⟩ := FunD.kbq h2 bd
  have l2 : ws.length = ks.length := by rw [← rz.length, ← ry.length, hnm]
  obtain ⟨os, z1, z2⟩ := b2 (VRs.nil (K := X.K) (ρ := ρ2) (H := H2)) ry .nil rz rfl l2
  refine wpAny_call (codeAny_mono (h3.run X.A X.stack s2 H2 ⟨[], ks.zip ws⟩ (gg [] ws) os ρ2 _ h2' hr I2.env0 (hln _ _ rfl hnm) (b1 s2 [] ws I2.kIn rfl l2) z2 z1 r2) fun r s' hq => ?_)
  cases r with
  | error e => exact hq.elim
  | ok fl => cases fl with
    | ret u => exact ⟨s2, ρ2, _, h2', H2, F, I2, ex2, r2, by unfold gCall aNil; simp only; rw [e2]; simp only; rw [if_pos ⟨rfl, hnm⟩], hq⟩
    | _ => exact hq.elim
theorem r_listG {G : Con → Ls → Heap → GD} {nm : Str} (hG : PGe X N Wx k e G) (hr : Room (k + 3) X.A) (hgu : X.A.guards = some []) (hg : Gl X nm) (hmg : X.mg nm = none) (hv : bootBuiltins nm = some (.type "list")) (hnm : nm ≠ "__name__" := by decide) (hdb : (nm == ("__debug__" : Str)) = false := by decide)
    (he : starEach [e] X.env = (false, eval e X.env) :: starEach [] X.env := by rfl) : PE X (.Call (.Name nm p) [e] [] pos) (LE X.K N Wx (eListG G)) := by
  refine ⟨fun pins s σ H Q I hq => ?_⟩
  obtain ⟨ρ, ls, h, l, hh, o⟩ := hq
  refine wpAny_Call_Name_kw (ld_blt I hg hmg hv ?_ hnm hdb)
  refine PyProof.Rows.callWith_type1 ?_ he rfl
  rw [he]
  show wpAny (model X.prog X.w) X.A (spliced ((false, eval e X.env) :: backTo pos (starEach [] X.env))) _ _ s
  unfold eListG at o
  cases eG : G conL ls h with
  | exc c fs h' => rw [eG] at o; exact o.elim
  | bad => rw [eG] at o; exact o.elim
  | ok a0 h0 =>
  rw [eG] at o
  refine Calls.spliced_cons (thn (hG.run pins s σ H ρ ls h conL I l hh (fun z => by rw [eG] at z; cases z) fun cl fs h' z => by rw [eG] at z; cases z) fun u s1 hu => ?_)
  obtain ⟨sc, ρ1, ws, h1, H1, Fg, I1, ex1, r1, ef, hM⟩ := hu
  refine Calls.spliced_nil ?_
  have hsz : sc.heap.objs.size ≤ s1.heap.objs.size := by
    obtain ⟨a, g, c, _, z1, z2, _⟩ := hM
    exact Nat.le_trans z1 (Nat.le_of_lt z2)
  refine call_listE hr hgu I1.ok.frames hM (by rw [← ef, eG]) fun S s2 q0 hF => ?_
  obtain ⟨a, h', ρ', H', acc, c, ys, er, g1, va, hle, os, hb, un, hok, hn, ex2, r2, vr⟩ := hF
  cases er
  refine ⟨.ref S, upd H' S (.lst ys), I1.drained (Nat.le_trans hsz q0) hle g1 va .nil os hb un hok hn, rfl, ?_⟩
  have hr2 : HR X.K N (ρ' ++ [S]) (h0.new (.lst a0.ws)) (upd H' S (.lst ys)) := r2.new hn (.lst (vr.mono (List.prefix_append _ _) (HE.new hn)))
  exact o (ρ' ++ [S]) _ _ ((ex1.trans ex2).trans (Ex.alloc hn)) hr2 (.ref (r2.at_new S))
end
end Ev
set_option maxRecDepth 100000
set_option maxHeartbeats 1000000
/-! EvZip: zip(xs, ys, strict = True) of two tuples of one length. -/
namespace Ev
open PySem L2 PySem.Spec PyProof.Rows RZ
abbrev IsZipS (h : PySem.Heap) (zz pa pb : Addr) (f0 : Value) : Prop := h.get? zz = some { cls := .type "zip", dict := none, data := .fields #[f0, .bool false, .bool true, .ref pa, .ref pb], slots := #[] }
section
variable {prog : Program} {w : World} {Ar : Around} {Er : Value → Shared → Prop} {s : Shared}
theorem noe_item {it l : Addr} {i : Nat} {items : Array Value} {x : Value} {Q : Option Value → Shared → Prop} (hit : s.heap.IsTupleIter it l i) (hl : s.heap.IsTuple l items) (hx : items[i]? = some x)
    (hQ : ∀ h', h'.IsTupleIter it l (i + 1) → Heap.SameBut it s.heap h' → Q (some x) { s with heap := h' }) : wpAny (model prog w) Ar (Builtin.SmallTypes.nextOrEnd (.ref it)) Q Er s := by
  unfold Builtin.SmallTypes.nextOrEnd
  exact wpAny_bind (wpAny_attempt (nextOf_tuple_item hit hl hx fun h' a b => wpAny_pure (hQ h' a b)))
theorem noe_end {it l : Addr} {i : Nat} {items : Array Value} {Q : Option Value → Shared → Prop} (hh : Ar.handled = none) (hit : s.heap.IsTupleIter it l i) (hl : s.heap.IsTuple l items) (hx : items[i]? = none)
    (hQ : ∀ h', Heap.ExtBut it s.heap h' → Q none { s with heap := h' }) : wpAny (model prog w) Ar (Builtin.SmallTypes.nextOrEnd (.ref it)) Q Er s := by
  unfold Builtin.SmallTypes.nextOrEnd
  refine wpAny_bind (wpAny_attempt (nextOf_tuple_end hh hit hl hx fun h' e a b => ?_))
  obtain ⟨o, ho, hc⟩ := b
  refine wpAny_bind (wpAny_isInstance (T := "StopIteration") (b := true) ⟨o, ho, hc⟩ isSubtype_stop ?_)
  exact wpAny_pure (hQ h' a)
theorem zipS_item {zz pa pb j1 j2 t1 t2 : Addr} {k1 k2 : Nat} {xs ys : Array Value} {x y a b : Value} {Q : Value → Shared → Prop} (D : ZipApart zz pa pb j1 j2 t1 t2)
    (hZ : IsZipS s.heap zz pa pb .none) (hP : IsPair s.heap pa (.ref j1) (.ref j2)) (hO : IsPair s.heap pb a b)
    (u1 : s.heap.IsTupleIter j1 t1 k1) (u2 : s.heap.IsTupleIter j2 t2 k2) (v1 : s.heap.IsTuple t1 xs) (v2 : s.heap.IsTuple t2 ys) (hx : xs[k1]? = some x) (hy : ys[k2]? = some y)
    (hQ : ∀ h', IsZipS h' zz pa pb (rawInt s.heap.objs.size) → IsPair h' pb x y → h'.IsTupleIter j1 t1 (k1 + 1) → h'.IsTupleIter j2 t2 (k2 + 1) → IsPair h' s.heap.objs.size x y → h'.objs.size = s.heap.objs.size + 1 →
      (∀ c o, c ≠ zz → c ≠ pb → c ≠ j1 → c ≠ j2 → s.heap.get? c = some o → h'.get? c = some o) → Q (.ref s.heap.objs.size) { s with heap := h' }) :
    wpAny (model prog w) Ar (Builtin.«zip.__next__» ⟨[.ref zz], []⟩) (fun fin s' => ∃ v, fin = .done (.ret v) ∧ Q v s') Er s := by
  show wpAny (model prog w) Ar (field (.ref zz) 2 >>= _) _ _ s
  refine wpAny_bind (wpAny_field hZ rfl (x := .bool true) rfl ?_)
  show wpAny (model prog w) Ar (field (.ref zz) 3 >>= _) _ _ s
  refine wpAny_bind (wpAny_field hZ rfl (x := .ref pa) rfl ?_); refine wpAny_bind (wpAny_seqItems hP rfl ?_)
  show wpAny (model prog w) Ar (Builtin.SmallTypes.ownedTupleIsFree (.ref zz) >>= _) _ _ s
  refine wpAny_bind ?_
  unfold Builtin.SmallTypes.ownedTupleIsFree
  refine wpAny_bind (wpAny_field hZ rfl (x := .none) rfl (wpAny_pure ?_))
  simp only [if_true]; refine wpAny_bind (wpAny_rule ?_)
  refine wpAny_bind (wpAny_field hZ rfl (x := .ref pb) rfl ?_)
  refine wpAny_bind (wpAny_setField_rec hZ (by simp) fun g1 hZ1 s1 => ?_)
  replace hZ1 : IsZipS g1 zz pa pb .ellipsis := hZ1
  refine wpAny_bind ?_; simp only [List.zipIdx_cons, List.zipIdx_nil, List.forIn_cons, List.forIn_nil]
  refine wpAny_bind (wpAny_bind (wpAny_onRaise ?_))
  show wpAny (model prog w) Ar (Builtin.SmallTypes.nextOrEnd (.ref j1)) _ _ _
  refine noe_item (u1.extBut s1.extBut D.i1z) (v1.extBut s1.extBut D.l1z) hx fun g2 u12 s2 => ?_
  have hO2 : IsPair g2 pb a b := s2.extBut _ _ D.TOi1 (s1.extBut _ _ D.TOz hO)
  refine wpAny_bind (wpAny_seqItems hO2 rfl ?_); refine wpAny_bind (wpAny_updateSeq_pair hO2 fun g3 hO3 s3 => ?_)
  replace hO3 : IsPair g3 pb x b := hO3
  refine wpAny_bind (wpAny_letGo (wpAny_pure ?_)); refine wpAny_bind (wpAny_bind (wpAny_onRaise ?_))
  show wpAny (model prog w) Ar (Builtin.SmallTypes.nextOrEnd (.ref j2)) _ _ _
  refine noe_item (((u2.extBut s1.extBut D.i2z).extBut s2.extBut D.i12.symm).extBut s3.extBut D.TOi2.symm) (((v2.extBut s1.extBut D.l2z).extBut s2.extBut D.l2i1).extBut s3.extBut D.l2TO) hy fun g4 u24 s4 => ?_
  have hO4 : IsPair g4 pb x b := s4.extBut _ _ D.TOi2 hO3
  refine wpAny_bind (wpAny_seqItems hO4 rfl ?_); refine wpAny_bind (wpAny_updateSeq_pair hO4 fun g5 hO5 s5 => ?_)
  replace hO5 : IsPair g5 pb x y := hO5
  refine wpAny_bind (wpAny_letGo (wpAny_pure (wpAny_pure ?_)))
  refine wpAny_bind (wpAny_seqItems hO5 rfl ?_); refine wpAny_bind (wpAny_newTuple ?_)
  have hsz : g5.objs.size = s.heap.objs.size := by rw [s5.1, s4.1, s3.1, s2.1, s1.1]
  have hZ5 : IsZipS g5 zz pa pb .ellipsis := s5.extBut _ _ D.TOz.symm (s4.extBut _ _ D.i2z.symm (s3.extBut _ _ D.TOz.symm (s2.extBut _ _ D.i1z.symm hZ1)))
  have hk5 : ∀ c o, c ≠ zz → c ≠ pb → c ≠ j1 → c ≠ j2 → s.heap.get? c = some o → g5.get? c = some o := fun c o c1 c2 c3 c4 e =>
    s5.extBut _ _ c2 (s4.extBut _ _ c4 (s3.extBut _ _ c2 (s2.extBut _ _ c3 (s1.extBut _ _ c1 e))))
  have u15 : g5.IsTupleIter j1 t1 (k1 + 1) := ((u12.extBut s3.extBut D.TOi1.symm).extBut s4.extBut D.i12).extBut s5.extBut D.TOi1.symm
  have u25 : g5.IsTupleIter j2 t2 (k2 + 1) := u24.extBut s5.extBut D.TOi2.symm
  have zlt : zz < g5.objs.size := Heap.lt_size hZ5
  show wpAny (model prog w) Ar (Builtin.SmallTypes.ownedTupleHandOut (.ref zz) (.ref g5.objs.size) >>= _) _ _ _
  refine wpAny_bind ?_
  unfold Builtin.SmallTypes.ownedTupleHandOut
  have hZ6 : IsZipS (g5.push { cls := .type "tuple", data := .seq #[x, y] }) zz pa pb .ellipsis := Heap.get?_push_of_some _ hZ5
  refine wpAny_bind (wpAny_setField_rec hZ6 (by simp) fun g7 hZ7 s7 => ?_)
  replace hZ7 : IsZipS g7 zz pa pb (rawInt g5.objs.size) := hZ7
  refine wpAny_setField_rec hZ7 (by simp) fun g8 hZ8 s8 => ?_
  replace hZ8 : IsZipS g8 zz pa pb (rawInt g5.objs.size) := hZ8
  have up : ∀ c o, c ≠ zz → g5.get? c = some o → g8.get? c = some o := fun c o c1 e => s8.extBut _ _ c1 (s7.extBut _ _ c1 (Heap.get?_push_of_some _ e))
  have hT8 : IsPair g8 g5.objs.size x y := s8.extBut _ _ (Nat.ne_of_gt zlt) (s7.extBut _ _ (Nat.ne_of_gt zlt) (Heap.get?_push_size _ rfl))
  have z8 : g8.objs.size = g5.objs.size + 1 := by rw [s8.1, s7.1, Heap.size_push]
  rw [hsz] at hZ8 hT8 z8
  refine wpAny_pure ⟨_, rfl, ?_⟩
  show Q (.ref g5.objs.size) _
  rw [hsz]
  exact hQ g8 hZ8 (up _ _ D.TOz hO5) (u15.at fun o e => up _ o D.i1z e) (u25.at fun o e => up _ o D.i2z e) hT8 z8 fun c o c1 c2 c3 c4 e => up c o c1 (hk5 c o c1 c2 c3 c4 e)
theorem zipS_end {zz pa pb j1 j2 t1 t2 : Addr} {k1 k2 : Nat} {xs ys : Array Value} {a b : Value} {Q : Fin → Shared → Prop} (hh : Ar.handled = none) (D : ZipApart zz pa pb j1 j2 t1 t2)
    (hZ : IsZipS s.heap zz pa pb .none) (hP : IsPair s.heap pa (.ref j1) (.ref j2)) (hO : IsPair s.heap pb a b)
    (u1 : s.heap.IsTupleIter j1 t1 k1) (u2 : s.heap.IsTupleIter j2 t2 k2) (v1 : s.heap.IsTuple t1 xs) (v2 : s.heap.IsTuple t2 ys) (hx : xs[k1]? = none) (hy : ys[k2]? = none)
    (hE : ∀ h' e, (∀ c o, c ≠ zz → c ≠ pb → c ≠ j1 → c ≠ j2 → s.heap.get? c = some o → h'.get? c = some o) → (∃ o, h'.get? e = some o ∧ o.cls = .type "StopIteration") → Er (.ref e) { s with heap := h' }) :
    wpAny (model prog w) Ar (Builtin.«zip.__next__» ⟨[.ref zz], []⟩) Q Er s := by
  show wpAny (model prog w) Ar (field (.ref zz) 2 >>= _) _ _ s
  refine wpAny_bind (wpAny_field hZ rfl (x := .bool true) rfl ?_)
  show wpAny (model prog w) Ar (field (.ref zz) 3 >>= _) _ _ s
  refine wpAny_bind (wpAny_field hZ rfl (x := .ref pa) rfl ?_); refine wpAny_bind (wpAny_seqItems hP rfl ?_)
  show wpAny (model prog w) Ar (Builtin.SmallTypes.ownedTupleIsFree (.ref zz) >>= _) _ _ s
  refine wpAny_bind ?_
  unfold Builtin.SmallTypes.ownedTupleIsFree
  refine wpAny_bind (wpAny_field hZ rfl (x := .none) rfl (wpAny_pure ?_))
  simp only [if_true]; refine wpAny_bind (wpAny_rule ?_)
  refine wpAny_bind (wpAny_field hZ rfl (x := .ref pb) rfl ?_)
  refine wpAny_bind (wpAny_setField_rec hZ (by simp) fun g1 hZ1 s1 => ?_)
  replace hZ1 : IsZipS g1 zz pa pb .ellipsis := hZ1
  refine wpAny_bind ?_; simp only [List.zipIdx_cons, List.zipIdx_nil, List.forIn_cons, List.forIn_nil]
  refine wpAny_bind (wpAny_bind (wpAny_onRaise ?_))
  show wpAny (model prog w) Ar (Builtin.SmallTypes.nextOrEnd (.ref j1)) _ _ _
  refine noe_end hh (u1.extBut s1.extBut D.i1z) (v1.extBut s1.extBut D.l1z) hx fun g2 s2 => ?_
  have hZ2 : IsZipS g2 zz pa pb .ellipsis := s2 _ _ D.i1z.symm hZ1
  refine wpAny_bind (wpAny_setField_rec hZ2 (by simp) fun g3 hZ3 s3 => ?_)
  refine wpAny_bind ?_
  show wpAny (model prog w) Ar (forIn ([Value.ref j2].zipIdx 1) PUnit.unit _ >>= _) _ _ _
  refine wpAny_bind ?_
  simp only [List.zipIdx_cons, List.zipIdx_nil, List.forIn_cons, List.forIn_nil]
  refine wpAny_bind (wpAny_bind (noe_end hh (((u2.extBut s1.extBut D.i2z).extBut s2 D.i12.symm).extBut s3.extBut D.i2z) (((v2.extBut s1.extBut D.l2z).extBut s2 D.l2i1).extBut s3.extBut D.l2z) hy fun g4 s4 => ?_))
  rw [if_neg (by decide)]
  refine wpAny_pure (wpAny_pure ?_)
  refine wpAny_bind (wpAny_rule ?_); unfold Builtin.SmallTypes.stopIteration
  refine wpAny_bind ?_; simp only [newExc, newTuple]
  refine wpAny_bind (wpAny_newObj_type ?_ (by size_fits)); refine wpAny_bind (m := firstArgMember _ _) (wpAny_of_eq (a := Value.none) (by first | rfl | (simp only [firstArgMember]; rfl)) ?_)
  refine wpAny_newObj_type ?_ (by size_fits)
  simp only [raiseNew]
  refine wpAny_bind (wpAny_handled ?_); rw [hh]
  refine wpAny_bind (wpAny_pure (wpAny_throw ?_))
  exact hE _ _ (fun c o c1 c2 c3 c4 e => Heap.get?_push_of_some _ (Heap.get?_push_of_some _ (s4 _ _ c4 (s3.extBut _ _ c1 (s2 _ _ c3 (s1.extBut _ _ c1 e)))))) ⟨_, Heap.get?_push_size _ rfl, rfl⟩
theorem pyNext_zipS_item {zz pa pb j1 j2 t1 t2 : Addr} {k1 k2 : Nat} {xs ys : Array Value} {x y a b : Value} {Q : Option Value → Shared → Prop} (D : ZipApart zz pa pb j1 j2 t1 t2)
    (hZ : IsZipS s.heap zz pa pb .none) (hP : IsPair s.heap pa (.ref j1) (.ref j2)) (hO : IsPair s.heap pb a b)
    (u1 : s.heap.IsTupleIter j1 t1 k1) (u2 : s.heap.IsTupleIter j2 t2 k2) (v1 : s.heap.IsTuple t1 xs) (v2 : s.heap.IsTuple t2 ys) (hx : xs[k1]? = some x) (hy : ys[k2]? = some y)
    (hQ : ∀ h', IsZipS h' zz pa pb (rawInt s.heap.objs.size) → IsPair h' pb x y → h'.IsTupleIter j1 t1 (k1 + 1) → h'.IsTupleIter j2 t2 (k2 + 1) → IsPair h' s.heap.objs.size x y → h'.objs.size = s.heap.objs.size + 1 →
      (∀ c o, c ≠ zz → c ≠ pb → c ≠ j1 → c ≠ j2 → s.heap.get? c = some o → h'.get? c = some o) → Q (some (.ref s.heap.objs.size)) { s with heap := h' }) : wpAny (model prog w) Ar (pyNext (.ref zz)) Q Er s := by
  have hT : s.TypeIs (.ref zz) "zip" := ⟨_, hZ, rfl⟩
  unfold pyNext
  exact wpAny_bind (wpAny_attempt (wpAny_callSpecial?_slot (name := Str.ofString "__next__") hT F.slot_zip_next (wpAny_call_entry F.slot_zip_next hT F.entry_zip_next (zipS_item D hZ hP hO u1 u2 v1 v2 hx hy fun h' a1 a2 a3 a4 a5 a6 a7 => wpAny_pure (hQ h' a1 a2 a3 a4 a5 a6 a7)) (F.args_zip_next_1 _))))
theorem pyNext_zipS_end {zz pa pb j1 j2 t1 t2 : Addr} {k1 k2 : Nat} {xs ys : Array Value} {a b : Value} {Q : Option Value → Shared → Prop} (hh : Ar.handled = none) (D : ZipApart zz pa pb j1 j2 t1 t2)
    (hZ : IsZipS s.heap zz pa pb .none) (hP : IsPair s.heap pa (.ref j1) (.ref j2)) (hO : IsPair s.heap pb a b)
    (u1 : s.heap.IsTupleIter j1 t1 k1) (u2 : s.heap.IsTupleIter j2 t2 k2) (v1 : s.heap.IsTuple t1 xs) (v2 : s.heap.IsTuple t2 ys) (hx : xs[k1]? = none) (hy : ys[k2]? = none)
    (hQ : ∀ h', (∀ c o, c ≠ zz → c ≠ pb → c ≠ j1 → c ≠ j2 → s.heap.get? c = some o → h'.get? c = some o) → Q none { s with heap := h' }) : wpAny (model prog w) Ar (pyNext (.ref zz)) Q Er s := by
  have hT : s.TypeIs (.ref zz) "zip" := ⟨_, hZ, rfl⟩
  unfold pyNext
  refine wpAny_bind (wpAny_attempt (wpAny_callSpecial?_slot (name := Str.ofString "__next__") hT F.slot_zip_next (wpAny_call_entry F.slot_zip_next hT F.entry_zip_next (zipS_end hh D hZ hP hO u1 u2 v1 v2 hx hy fun h' e hk he => ?_) (F.args_zip_next_1 _))))
  obtain ⟨o, ho, hc⟩ := he
  refine wpAny_bind (wpAny_isInstance (T := "StopIteration") (b := true) ⟨o, ho, hc⟩ isSubtype_stop ?_)
  exact wpAny_pure (hQ _ hk)
theorem go_zipS {elts : List PySem.Expr} {x1 : Nat} {pos : Pos} {zz pa pb T : Addr} {Q : Unit → Shared → Prop} (hZ : IsZipS s.heap zz pa pb (rawInt T)) (hQ : ∀ h', IsZipS h' zz pa pb .none → Heap.SameBut zz s.heap h' → Q () { s with heap := h' }) :
    wpAny (model prog w) Ar (letOwnedTupleGo (.Tuple elts x1 pos) (.ref zz) (.ref T)) Q Er s := by
  unfold letOwnedTupleGo
  refine wpAny_bind (wpAny_load hZ ?_)
  show wpAny (model prog w) Ar (if (["enumerate", "zip", "dict_itemiterator", "dict_reverseitemiterator", "odict_iterator", "itertools.zip_longest", "itertools.pairwise"].contains "zip" && (#[rawInt T, .bool false, .bool true, .ref pa, .ref pb] : Array Value)[0]? == some (rawInt T)) = true then _ else _) Q Er s
  rw [if_pos (by simp)]
  refine wpAny_bind (wpAny_rule ?_)
  show wpAny (model prog w) Ar (setField (.ref zz) 0 .none) Q Er s
  exact wpAny_setField_rec hZ (by simp) fun h' z1 z2 => hQ h' z1 z2
theorem self_zipS {zz pa pb : Addr} {f0 : Value} {Q : Value → Shared → Prop} (hZ : IsZipS s.heap zz pa pb f0) (h : Q (.ref zz) s) : wpAny (model prog w) Ar (pyIter (.ref zz)) Q Er s := by
  have hT : s.TypeIs (.ref zz) "zip" := ⟨_, hZ, rfl⟩
  refine wpAny_pyIter_slot hT F.slot_zip_iter (wpAny_call_entry F.slot_zip_iter hT F.entry_zip_iter ?_ (F.args_zip_iter_1 _))
  show wpAny (model prog w) Ar.in1 (ret (.ref zz)) _ _ s
  exact wpAny_pure ⟨_, rfl, "zip", _, hT, F.slot_zip_next.lookup, h⟩
theorem meets_zipS (t1 t2 : Addr) (xs ys : Array Value) :
    Meets (Builtin.«zip.__new__» ⟨[.type "zip", .ref t1, .ref t2], [("strict", .bool true)]⟩) (fun _ R s => s.heap.IsTuple t1 xs ∧ s.heap.IsTuple t2 ys ∧
      R (.ok (.ret (.ref (zipTH4 s.heap t1 t2).objs.size))) { s with heap := (zipTH4 s.heap t1 t2).push { cls := .type "zip", data := .fields #[.none, .bool false, .bool true, .ref (zipTH2 s.heap t1 t2).objs.size, .ref (zipTH3 s.heap t1 t2).objs.size] } }) :=
  .of_wp fun prog w Ar R s h => by
    obtain ⟨hp, g, d, tk, os⟩ := s
    obtain ⟨hl1, hl2, h⟩ := h
    have hsub := sub_zip
    have l1 : Heap.IsTuple (Shared.heap ⟨hp, g, d, tk, os⟩) t1 xs := hl1
    have l2 : Heap.IsTuple (Shared.heap ⟨hp.push { cls := .type "tuple_iterator", data := .fields #[.ref t1, .int 0 0] }, g, d, tk, os⟩) t2 ys := Heap.IsTuple.push hl2 _
    wp_walk using wpAny_pyIter_tuple l1, wpAny_pyIter_tuple l2
    exact ⟨_, rfl, h⟩
theorem typeKw {T newId initId : String} {Bn Bi : Builtin} {args : List Value} {kw : List (Str × Value)} {Sp : PySem.Spec} {Q Q1 : Value → Shared → Prop} (ft : TypeCalled T newId initId)
    (hct : checkTypeCall T ⟨args, kw⟩ = pure ()) (hcn : checkBuiltinCall newId ⟨.type T :: args, kw⟩ = pure ()) (eN : entryFor table newId = some Bn) (eI : entryFor table initId = some Bi) (gm : Meets (Bn ⟨.type T :: args, kw⟩) Sp) (h : Sp Ar.in1 (wants Q1 Er) s)
    (nxt : ∀ obj s1, Q1 obj s1 → s1.TypeIs obj T ∧ argsOk initId ⟨obj :: args, kw⟩ ∧ ∃ Si, Meets (Bi ⟨obj :: args, kw⟩) Si ∧ Si Ar.in1 (wants (fun r s2 => r = .none ∧ Q obj s2) Er) s1) : wpAny (model prog w) Ar (call (.type T) args kw) Q Er s := by
  obtain ⟨c, tl, hmro⟩ := ft.mro
  have hmade := ft.made
  have hsub := ft.sub
  refine wpAny_call (codeAny_of_tree ?_)
  show wpAny (model prog w) (Ar.under _) (callAny (.type T) _) _ _ s
  refine wpAny_pure ⟨Code.quiet_builtin _ (by decide +kernel), codeAny_builtin F.entry_type_call ?_⟩
  rw [Around.under_plain (c := .builtin "type.__call__" ⟨.type T :: args, kw⟩) rfl rfl]
  have z1 := ft.notType
  have z2 := ft.canCreate
  repeat (any_goals (first | assumption | wp_step))
  refine codeAny_mono (codeAny_call_builtin ft.plain eN (wpAny_of_eq hcn (gm prog w Ar.in1 _ s h))) fun r s1 hr => ?_
  cases r with
  | error e => exact hr
  | ok fl => cases fl with
    | ret obj =>
      obtain ⟨hT, hok, Si, gi, hsi⟩ := nxt _ _ hr
      have z3 := ft.init.lookup
      have z4 := ft.init.bind obj
      repeat (any_goals (first | assumption | wp_step))
      refine codeAny_mono (codeAny_call_builtin ft.init.plain eI (ft.init.check _ _ _ _ _ _ _ _ hT hok (gi prog w Ar.in1 _ s1 hsi))) fun r2 s2 hr2 => ?_
      cases r2 with
      | error e => exact hr2
      | ok fl2 => cases fl2 with
        | ret r =>
          obtain ⟨rfl, hq⟩ := hr2
          repeat (any_goals (first | assumption | wp_step))
        | _ => exact hr2.elim
    | _ => exact hr.elim
theorem typeCall_zipS (a b : Value) : checkTypeCall "zip" ⟨[a, b], [("strict", .bool true)]⟩ = pure () := by kernel_rfl
theorem newCall_zipS (a b : Value) : checkBuiltinCall "zip.__new__" ⟨[.type "zip", a, b], [("strict", .bool true)]⟩ = pure () := by kernel_rfl
theorem args_initS (a b c : Value) : argsOk "object.__init__" ⟨[a, b, c], [("strict", .bool true)]⟩ := by
  unfold argsOk; rw [signature?_of (id := "object.__init__") (n := ['_', '_', 't', 'i', 'n', 'i', '_', '_']) (o := ['t', 'c', 'e', 'j', 'b', 'o']) (by kernel_rfl) F.owner_object]; kernel_rfl
theorem init_kw {T newId : String} {obj a : Value} {rest : List Value} {kw : List (Str × Value)} (hl : typeLookup (.type T) "__init__" = pure (some (.builtin "object.__init__")))
    (hm : Bind.madeBy (.type T) = pure (some newId)) (hne : (some newId != some "object.__new__") = true) : Meets (Builtin.«object.__init__» ⟨obj :: a :: rest, kw⟩) (fun _ R s => s.TypeIs obj T ∧ R (.ok (.ret .none)) s) := by
  refine Meets.of_wp fun prog w Ar R s hs => ?_
  obtain ⟨hT, hq⟩ := hs
  repeat (any_goals (first | assumption | wp_step))
  exact ⟨_, rfl, hq⟩
theorem call_zipS {t1 t2 : Addr} {xs ys : Array Value} {Q : Value → Shared → Prop} (v1 : s.heap.IsTuple t1 xs) (v2 : s.heap.IsTuple t2 ys)
    (h : ∀ h', IsZipS h' (s.heap.objs.size + 4) (s.heap.objs.size + 2) (s.heap.objs.size + 3) .none → IsPair h' (s.heap.objs.size + 2) (.ref s.heap.objs.size) (.ref (s.heap.objs.size + 1)) →
      IsPair h' (s.heap.objs.size + 3) .none .none → h'.IsTupleIter s.heap.objs.size t1 0 → h'.IsTupleIter (s.heap.objs.size + 1) t2 0 → h'.objs.size = s.heap.objs.size + 5 →
      (∀ c o, s.heap.get? c = some o → h'.get? c = some o) → Q (.ref (s.heap.objs.size + 4)) { s with heap := h' }) :
    wpAny (model prog w) Ar (call (.type "zip") [.ref t1, .ref t2] [("strict", .bool true)]) Q Er s := by
  refine typeKw (Q1 := fun obj s1 => s1.TypeIs obj "zip" ∧ Q obj s1) F.called_zip (typeCall_zipS _ _) (newCall_zipS _ _) F.entry_zip_new F.entry_object_init (meets_zipS t1 t2 xs ys) ⟨v1, v2, ?_⟩ fun obj s1 hq => ⟨hq.1, args_initS obj _ _, _, init_kw F.called_zip.init.lookup F.called_zip.made (by decide), hq.1, rfl, hq.2⟩
  have z1 : (zipTH1 s.heap t1).objs.size = s.heap.objs.size + 1 := Heap.size_push ..
  have z2 : (zipTH2 s.heap t1 t2).objs.size = s.heap.objs.size + 2 := by rw [Heap.size_push, z1]
  have z3 : (zipTH3 s.heap t1 t2).objs.size = s.heap.objs.size + 3 := by rw [Heap.size_push, z2]
  have z4 : (zipTH4 s.heap t1 t2).objs.size = s.heap.objs.size + 4 := by rw [Heap.size_push, z3]
  generalize hob : ({ cls := .type "zip", data := .fields #[.none, .bool false, .bool true, .ref (zipTH2 s.heap t1 t2).objs.size, .ref (zipTH3 s.heap t1 t2).objs.size] } : Obj) = ob
  have g5 : ((zipTH4 s.heap t1 t2).push ob).get? (zipTH4 s.heap t1 t2).objs.size = some ob := by rw [← hob]; exact Heap.get?_push_size _ rfl
  have g4 : ((zipTH4 s.heap t1 t2).push ob).get? (zipTH3 s.heap t1 t2).objs.size = some { cls := .type "tuple", data := .seq #[.none, .none] } := Heap.get?_push_of_some _ (Heap.get?_push_size _ rfl)
  have g3 : ((zipTH4 s.heap t1 t2).push ob).get? (zipTH2 s.heap t1 t2).objs.size = some { cls := .type "tuple", data := .seq #[.ref s.heap.objs.size, .ref (zipTH1 s.heap t1).objs.size] } := Heap.get?_push_of_some _ (Heap.get?_push_of_some _ (Heap.get?_push_size _ rfl))
  have g2 : ((zipTH4 s.heap t1 t2).push ob).get? (zipTH1 s.heap t1).objs.size = some { cls := .type "tuple_iterator", data := .fields #[.ref t2, .int 0 0] } := Heap.get?_push_of_some _ (Heap.get?_push_of_some _ (Heap.get?_push_of_some _ (Heap.get?_push_size _ rfl)))
  have g1 : ((zipTH4 s.heap t1 t2).push ob).get? s.heap.objs.size = some { cls := .type "tuple_iterator", data := .fields #[.ref t1, .int 0 0] } := Heap.get?_push_of_some _ (Heap.get?_push_of_some _ (Heap.get?_push_of_some _ (Heap.get?_push_of_some _ (Heap.get?_push_size _ rfl))))
  have z5 : ((zipTH4 s.heap t1 t2).push ob).objs.size = s.heap.objs.size + 5 := by rw [Heap.size_push, z4]
  show _ ∧ _
  rw [z2, z3] at hob
  subst hob
  rw [z4] at g5
  rw [z1, z2] at g3
  rw [z3] at g4
  rw [z1] at g2
  rw [z4]
  exact ⟨⟨_, g5, rfl⟩, h _ g5 g3 g4 ⟨_, g1, rfl, rfl⟩ ⟨_, g2, rfl, rfl⟩ z5 fun c o x => Heap.get?_push_of_some _ (Heap.get?_push_of_some _ (Heap.get?_push_of_some _ (Heap.get?_push_of_some _ (Heap.get?_push_of_some _ x))))⟩
end
end Ev
set_option maxRecDepth 100000
set_option maxHeartbeats 1000000
/-! EvZipI: what a loop over zip(.., strict = True) walks. -/
namespace Ev
open PySem L2 PySem.Spec PyProof.Rows RZ
def ItzS (K : PySem.W.Frag) (a b : Addr) : It :=
  ⟨(ItzT K a b).go, (ItzT K a b).yld, fun i H => ∃ xs ys : List V, SqT K H a xs ∧ SqT K H b ys ∧ xs.length ≤ i ∧ ys.length ≤ i⟩
theorem turn_zipS {P : Program} {w : World} {K : PySem.W.Frag} {elts : List PySem.Expr} {kk : Nat} {tpos : Pos} {a b zz pa pb j1 j2 : Addr} (D : ZipApart zz pa pb j1 j2 a b) :
    Turn P w K (.Tuple elts kk tpos) (ItzS K a b) [zz, pa, pb, j1, j2] zz (fun i h => IsZipS h zz pa pb .none ∧ IsPair h pa (.ref j1) (.ref j2) ∧ (∃ x y, IsPair h pb x y) ∧ h.IsTupleIter j1 a i ∧ h.IsTupleIter j2 b i) where
  mem := by simp
  obj := fun i h st c hc => by
    obtain ⟨hZ, hP, ⟨x, y, hO⟩, ⟨o1, e1, _, d1⟩, ⟨o2, e2, _, d2⟩⟩ := st
    simp only [List.mem_cons, List.not_mem_nil, or_false] at hc
    rcases hc with q | q | q | q | q
    · rw [q]; exact ⟨_, hZ, fun v q => nomatch q⟩
    · rw [q]; exact ⟨_, hP, fun v q => nomatch q⟩
    · rw [q]; exact ⟨_, hO, fun v q => nomatch q⟩
    · rw [q]; exact ⟨o1, e1, fun v q => by rw [d1] at q; cases q⟩
    · rw [q]; exact ⟨o2, e2, fun v q => by rw [d2] at q; cases q⟩
  keep := fun i h h' st k => by
    obtain ⟨hZ, hP, ⟨x, y, hO⟩, u1, u2⟩ := st
    exact ⟨k zz (by simp) _ hZ, k pa (by simp) _ hP, ⟨x, y, k pb (by simp) _ hO⟩, u1.at fun o q => k j1 (by simp) o q, u2.at fun o q => k j2 (by simp) o q⟩
  item := by
    intro X hP hw hK hc i pins s σ H E I hf st hg
    subst hP hw hK
    obtain ⟨hZ, hPp, ⟨x0, y0, hO⟩, u1, u2⟩ := st
    obtain ⟨xs, ys, x, y, hqx, hqy, hx, hy⟩ := hg
    obtain ⟨is1, rv, p, _⟩ := I.tuple hqx
    obtain ⟨is2, rv2, p2, _⟩ := I.tuple hqy
    obtain ⟨u, hu, ru⟩ := rv.get hx
    obtain ⟨t, ht, rt⟩ := rv2.get hy
    have zlt : zz < s.heap.objs.size := Heap.lt_size hZ
    refine pyNext_zipS_item D hZ hPp hO u1 u2 p p2 (x := u) (y := t) (by simpa using hu) (by simpa using ht) fun h' z' O' u1' u2' hT hsz hk => ?_
    refine ⟨_, rfl, go_zipS (s := { s with heap := h' }) z' fun h2 z2 sb => ?_⟩
    have hT2 : h2.get? s.heap.objs.size = some { cls := .type "tuple", data := .seq #[u, t] } := (sb.2 _ (Nat.ne_of_gt zlt)).trans hT
    have new : ObjOk X.prog X.w (upd H s.heap.objs.size (.tup [x, y])) h2 s.heap.objs.size (.tup [x, y]) := ⟨by show 2 ≤ sizeLine; decide, [u, t], .cons ru (.cons rt .nil), ⟨_, hT2, rfl, _, rfl⟩⟩
    have I1 : Inv X pins σ (upd H s.heap.objs.size (.tup [x, y])) { s with heap := h2 } :=
      I.turnedNew (t' := s.toks) (ch := [zz, pa, pb, j1, j2]) (fun c o hb q => (sb.2 c (fun e => hb (by simp [e]))).trans (hk c o (fun e => hb (by simp [e])) (fun e => hb (by simp [e])) (fun e => hb (by simp [e])) (fun e => hb (by simp [e])) q)) hf (Nat.le_refl _) new
    refine ⟨.ref s.heap.objs.size, _, I1, rfl, ⟨_, x, y, rfl, I.hok.fresh (Nat.le_refl _), rfl, fun l hl => by rw [I.tuple_inj hl hqx]; exact hx, fun l hl => by rw [I.tuple_inj hl hqy]; exact hy⟩, ⟨z2, ?_, ⟨u, t, ?_⟩, ?_, ?_⟩, fun c hcm => ?_⟩
    · exact (sb.2 _ D.TIz).trans (hk _ _ D.TIz D.TITO D.TIi1 D.TIi2 hPp)
    · exact (sb.2 _ D.TOz).trans O'
    · exact u1'.at fun o q => (sb.2 _ D.i1z).trans q
    · exact u2'.at fun o q => (sb.2 _ D.i2z).trans q
    · have hlt : c < s.heap.objs.size := by
        simp only [List.mem_cons, List.not_mem_nil, or_false] at hcm
        rcases hcm with q | q | q | q | q
        · rw [q]; exact zlt
        · rw [q]; exact Heap.lt_size hPp
        · rw [q]; exact Heap.lt_size hO
        · rw [q]; obtain ⟨_, e1, _⟩ := u1; exact Heap.lt_size e1
        · rw [q]; obtain ⟨_, e2, _⟩ := u2; exact Heap.lt_size e2
      rw [upd_ne (Nat.ne_of_lt hlt)]
      exact (hf c hcm).1
  done := by
    intro X hP hw hK hc i pins s σ H E I hf st hg
    subst hP hw hK
    obtain ⟨hZ, hPp, ⟨x0, y0, hO⟩, u1, u2⟩ := st
    obtain ⟨xs, ys, hqx, hqy, l1, l2⟩ := hg
    obtain ⟨is1, rv, p, _⟩ := I.tuple hqx
    obtain ⟨is2, rv2, p2, _⟩ := I.tuple hqy
    have a1 := rv.length
    have a2 := rv2.length
    exact pyNext_zipS_end (I.ok.hd hc) D hZ hPp hO u1 u2 p p2 (by simp; omega) (by simp; omega) fun h' hk => ⟨rfl, I.turnedL (t' := s.toks) (ch := [zz, pa, pb, j1, j2]) (fun c o hb q => hk c o (fun e => hb (by simp [e])) (fun e => hb (by simp [e])) (fun e => hb (by simp [e])) (fun e => hb (by simp [e])) q) hf⟩
  self := fun A i s Q E st h => self_zipS st.1 h
def iZipS (K : PySem.W.Frag) (ta : TA) : TI := fun σ H R => ta σ H fun vs H1 => ∃ a b xs ys, vs = [.ref a, .ref b] ∧ SqT K H1 a xs ∧ SqT K H1 b ys ∧ R (ItzS K a b) H1
theorem callWith_tyKw {M : Model} {Ar : Around} {Er : Value → Shared → Prop} {s : Shared} {env : Env} {pos : Pos} {T : String} {e : PySem.Expr} {es : List PySem.Expr} {kws : List Keyword} {Q : Value → Shared → Prop}
    (h : wpAny M Ar (spliced (backTo pos (starEach (e :: es) env))) (fun vs s1 => wpAny M Ar (evalAll ((backToKw pos (keywordEach kws env)).map (·.2))) (fun kvs s2 => wpAny M Ar (call (.type T) vs (((backToKw pos (keywordEach kws env)).filterMap (·.1)).zip kvs)) Q Er s2) Er s1) Er s)
    (he : backTo pos (starEach (e :: es) env) = (false, eval e env) :: backTo pos (starEach es env) := by rfl) (hpl : (backTo pos (starEach (e :: es) env)).any (·.1) = false := by rfl)
    (hall : (backToKw pos (keywordEach kws env)).all (·.1.isSome) = true := by rfl) (hkw : (backToKw pos (keywordEach kws env)).any (·.1.isNone) = false := by rfl) :
    wpAny M Ar (callWith pos (.type T) [] (backTo pos (starEach (e :: es) env)) (backToKw pos (keywordEach kws env))) Q Er s := by
  rw [he] at h hpl ⊢
  unfold callWith
  refine wpAny_bind (wpAny_holding (wpAny_mono (evalArgs_kwB (Q := fun a s1 => wpAny M Ar (call (.type T) a.pos a.kw) Q Er s1) hall h) (fun a s1 h1 => wpAny_bind (wpAny_standAt ?_)) fun _ _ x => x))
  simp only [hpl, hkw, Bool.or_false]
  refine wpAny_bind (wpAny_pure (wpAny_bind (wpAny_mono h1 (fun r s2 hr => wpAny_bind (wpAny_holding (wpAny_point (wpAny_pure hr)))) fun _ _ x => x)))
/-- zip(x, y, strict = True) -/
theorem pi_zipS {X : Cx} {e e2 : PySem.Expr} {ta : TA} {p pos tpos kp kp2 : Pos} {elts : List PySem.Expr} {kk : Nat} {j} (hg : Gl X "zip") (hm : X.mg "zip" = none) (ha : PA X [e, e2] ta)
    (hs : backTo pos (starEach [e, e2] X.env) = (false, eval e X.env) :: backTo pos (starEach [e2] X.env) := by rfl) (hpl : (backTo pos (starEach [e, e2] X.env)).any (·.1) = false := by rfl)
    (hall : (backToKw pos (keywordEach [⟨some "strict", .Constant (.bool true) j kp2, kp⟩] X.env)).all (·.1.isSome) = true := by rfl) (hkn : (backToKw pos (keywordEach [⟨some "strict", .Constant (.bool true) j kp2, kp⟩] X.env)).any (·.1.isNone) = false := by rfl)
    (hks : (backToKw pos (keywordEach [⟨some "strict", .Constant (.bool true) j kp2, kp⟩] X.env)).filterMap (·.1) = [("strict" : Str)] := by rfl) :
    PI X (.Tuple elts kk tpos) (.Call (.Name "zip" p) [e, e2] [⟨some "strict", .Constant (.bool true) j kp2, kp⟩] pos) (iZipS X.K ta) := by
  refine ⟨fun pins s σ H R I h => ?_⟩
  refine wpAny_Call_Name_kw (ld_blt I hg hm PyProof.Rows.boot_zip (callWith_tyKw (thn (ha.run pos pins s σ H _ I h) fun us s1 hu => ?_) hs hpl hall hkn))
  obtain ⟨vs, H1, I1, r1, a, b, xs, ys, rfl, hqx, hqy, q⟩ := hu
  refine kws_cons (Constant_bool (kws_nil ?_))
  rw [hks]
  cases r1 with
  | cons r rr => cases rr with
    | cons r' rr =>
      cases rr
      cases r
      cases r'
      have fr5 : ∀ c, c ∈ [s1.heap.objs.size + 4, s1.heap.objs.size + 2, s1.heap.objs.size + 3, s1.heap.objs.size, s1.heap.objs.size + 1] → FpOk X pins H1 c := fun c hcm => by
        have hle : s1.heap.objs.size ≤ c := by
          simp only [List.mem_cons, List.not_mem_nil, or_false] at hcm
          omega
        exact I1.fpOk hle (I1.hok.fresh hle)
      obtain ⟨is1, rv, p1, _⟩ := I1.tuple hqx
      obtain ⟨is2, rv2, p2, _⟩ := I1.tuple hqy
      obtain ⟨o1, ho1, _⟩ := id p1
      obtain ⟨o2, ho2, _⟩ := id p2
      refine call_zipS (show s1.heap.IsTuple a is1.toArray from p1) (show s1.heap.IsTuple b is2.toArray from p2) fun h' hZ hP hO u1 u2 hsz hk => self_zipS hZ ?_
      have I2 : Inv X pins σ H1 { s1 with heap := h' } := I1.kept (t' := s1.toks) hk
      exact ⟨s1.heap.objs.size + 4, [s1.heap.objs.size + 4, s1.heap.objs.size + 2, s1.heap.objs.size + 3, s1.heap.objs.size, s1.heap.objs.size + 1], _, _, H1, rfl, I2, turn_zipS (PySem.W.ktu_apart s1.heap.objs.size a b (Heap.lt_size ho1) (Heap.lt_size ho2)), ⟨hZ, hP, ⟨_, _, hO⟩, u1, u2⟩, fr5, q⟩
section
variable {K : PySem.W.Frag} {N : Nm} {ρ : List Addr} {H : Hp}
theorem src_zipS {a b : Addr} {xs ys : List W} {us vs : List V} (q1 : SqT K H a us) (r1 : VRs K ρ H xs us) (q2 : SqT K H b vs) (r2 : VRs K ρ H ys vs) (hl : xs.length = ys.length) : SrcOk K N ρ H (zipW xs ys) [] (ItzS K a b) where
  go := fun i ρ' h' H' ex r g hi => by
    rw [zipW_len] at hi
    obtain ⟨u, hu, _⟩ := r1.get (i := i) (w := xs[i]'(by omega)) (List.getElem?_eq_some_iff.mpr ⟨by omega, rfl⟩)
    obtain ⟨v, hv, _⟩ := r2.get (i := i) (w := ys[i]'(by omega)) (List.getElem?_eq_some_iff.mpr ⟨by omega, rfl⟩)
    exact ⟨us, vs, u, v, SqT.he ex.he q1, SqT.he ex.he q2, hu, hv⟩
  stop := fun ρ' h' H' ex r g => by
    have a1 := r1.length
    have a2 := r2.length
    exact ⟨us, vs, SqT.he ex.he q1, SqT.he ex.he q2, by rw [zipW_len]; omega, by rw [zipW_len]; omega⟩
  yld := fun i ρ' h' H' x H2 ex r g hi y => by
    obtain ⟨T, x0, y0, rfl, hn, rfl, z1, z2⟩ := y
    obtain ⟨w1, e1, e2⟩ := r1.get' (z1 us (SqT.he ex.he q1))
    obtain ⟨w2, e3, e4⟩ := r2.get' (z2 vs (SqT.he ex.he q2))
    obtain ⟨p1, p2, p3⟩ := new_pair r hn (e2.ex ex) (e4.ex ex)
    exact ⟨_, zipW_get e1 e3, p1, p2, p3⟩
end
/-- zip(.., .., strict = True) of two tuples -/
def iZipSW (gs : SEs) : SI := fun ls h => match gs ls h with
  | .ok [.tup xs, .tup ys] h1 => if xs.length = ys.length then .ok (zipW xs ys) [] h1 else .bad
  | .ok _ _ => .bad
  | .exc c fs h1 => .exc c fs h1
  | .bad => .bad
theorem i_zipS {X : Cx} {N : Nm} {Wx : WX} {e e2 : PySem.Expr} {gs : SEs} {p pos tpos kp kp2 : Pos} {elts : List PySem.Expr} {kk : Nat} {j} (hg : Gl X "zip") (hm : X.mg "zip" = none) (ha : PA X [e, e2] (LA X.K N Wx gs))
    (hs : backTo pos (starEach [e, e2] X.env) = (false, eval e X.env) :: backTo pos (starEach [e2] X.env) := by rfl) (hpl : (backTo pos (starEach [e, e2] X.env)).any (·.1) = false := by rfl)
    (hall : (backToKw pos (keywordEach [⟨some "strict", .Constant (.bool true) j kp2, kp⟩] X.env)).all (·.1.isSome) = true := by rfl) (hkn : (backToKw pos (keywordEach [⟨some "strict", .Constant (.bool true) j kp2, kp⟩] X.env)).any (·.1.isNone) = false := by rfl)
    (hks : (backToKw pos (keywordEach [⟨some "strict", .Constant (.bool true) j kp2, kp⟩] X.env)).filterMap (·.1) = [("strict" : Str)] := by rfl) :
    PI X (.Tuple elts kk tpos) (.Call (.Name "zip" p) [e, e2] [⟨some "strict", .Constant (.bool true) j kp2, kp⟩] pos) (LI X.K N Wx (iZipSW gs)) := by
  refine PI.imp (pi_zipS hg hm ha hs hpl hall hkn hks) fun σ H R h => ?_
  obtain ⟨ρ, ls, hp, l, hr, o⟩ := h
  refine ⟨ρ, ls, hp, l, hr, ?_⟩
  unfold iZipSW at o
  cases e1 : gs ls hp with
  | ok ws h1 =>
    rw [e1] at o
    intro ρ' H' vs ex r x
    cases x with
    | nil => exact o.elim
    | cons p1 x => cases x with
      | nil => cases p1 <;> exact o.elim
      | cons p2 x => cases x with
        | cons => cases p1 <;> (first | exact o.elim | (cases p2 <;> exact o.elim))
        | nil =>
          cases p1 with
          | @tup xs us a q1 r1 => cases p2 with
            | @tup ys ws b q2 r2 =>
              by_cases hl : xs.length = ys.length
              · simp only [if_pos hl] at o
                exact ⟨a, b, us, ws, rfl, q1, q2, o ρ' H' _ ex r (src_zipS q1 r1 q2 r2 hl)⟩
              · simp only [if_neg hl] at o
            | _ => exact o.elim
          | _ => first | exact o.elim | (cases p2 <;> exact o.elim)
  | exc c fs h1 => rw [e1] at o; exact o
  | bad => rw [e1] at o; exact o.elim
end Ev
set_option maxRecDepth 100000
set_option maxHeartbeats 1000000
/-! EvGFor: for within a generator. -/
namespace Ev
open PySem L2 PySem.Spec PyProof.Rows GenW
def gForL (t : Tg) (f : SGn) (g : List (Nat × List W)) : List W → SGn
  | [], _, a, ls, h => if gOk g h = true then .nx a ls h else .bad
  | x :: xs, c, a, ls, h => if gOk g h = true then match bindTg t x ls with
    | some ls1 => match f c a ls1 h with
      | .nx a2 ls2 h2 => gForL t f g xs c a2 ls2 h2
      | .ct a2 ls2 h2 => gForL t f g xs c a2 ls2 h2
      | .bk a2 ls2 h2 => .nx a2 ls2 h2
      | r => r
    | none => .bad
    else .bad
def gFor (t : Tg) (src : SI) (f : SGn) : SGn := fun c a ls h => match src ls h with
  | .ok xs g h1 => gForL t f g xs c a ls h1
  | .exc c fs h1 => .exc c fs h1
  | .bad => .bad
section
variable {prog : Program} {w : World} {Ar : Around} {R : GenEnd} {Y : Protocol} {n : Nat} {s₀ : Shared} {fs : List Frame} {s : Shared} {env : Env}
theorem seg_forL {tg : PySem.Expr} {it : Value} {body : List Stmt}
    (h : wpAny (model prog w) (Ar.over (.forLoop tg it body [] env) fs) (pyNext it) (fun r s1 => match r with
      | none => Seg (model prog w) Ar R Y n s₀ (.block [] env) ((model prog w).den (.block [] env)) fs s1
      | some v => wpAny (model prog w) (Ar.over (.forLoop tg it body [] env) fs) (letOwnedTupleGo tg it v) (fun _ s2 => wpAny (model prog w) (Ar.over (.forLoop tg it body [] env) fs) (assign tg env v) (fun _ s3 =>
          Seg (model prog w) Ar R Y n s₀ (.forLoop tg it body [] env) ((execs body env).wrap (fun f => match f with
            | .next | .cont => .pure (.again (.forLoop tg it body [] env))
            | .brk => .pure (.done .next)
            | .ret v => .pure (.done (.ret v))) (fun e => (do noteFrame e env; theTreesLotGoes e : Sem Unit).wrap (fun _ => .raise e) .raise id id) id id) fs s3)
          (fun e s' => Seg (model prog w) Ar R Y n s₀ (.forLoop tg it body [] env) ((do noteFrame e env; theTreesLotGoes e : Sem Unit).wrap (fun _ => .raise e) .raise id id) fs s') s2) (fun _ _ => False) s1) (fun _ _ => False) s) : Seg (model prog w) Ar R Y n s₀ (.forLoop tg it body [] env) ((model prog w).den (.forLoop tg it body [] env)) fs s := by
  show Seg (model prog w) Ar R Y n s₀ _ ((forTurn tg it body [] env).onRaise (fun x => do noteFrame x env; theTreesLotGoes x)) fs s
  unfold forTurn
  rw [Sem.onRaise_eq_wrap]
  refine seg_bind_wrap (wpAny_standAt ?_)
  refine seg_bind_wrap (wpAny_onRaise (wpAny_mono h (fun r s1 h1 => ?_) fun _ _ z => z.elim))
  cases r with
  | none => exact seg_again rfl h1
  | some v =>
    refine seg_bind_wrap (wpAny_mono h1 (fun _ s2 h2 => ?_) fun _ _ z => z.elim)
    refine seg_bind_wrap (wpAny_mono h2 (fun _ s3 h3 => ?_) fun e s' z => by first | (rw [← Sem.bind_eq_wrap] at z; exact z) | (show Seg (model prog w) Ar R Y n s₀ _ ((do noteFrame e env; theTreesLotGoes e : Sem Unit).bind fun _ => .raise e) fs s'; rw [Sem.bind_eq_wrap]; exact z))
    rw [Sem.bind_eq_wrap', Sem.wrap_wrap]
    rw [Sem.wrap_congr (execs body env) _ _ (K' := fun f => match f with
            | .next | .cont => .pure (.again (.forLoop tg it body [] env))
            | .brk => .pure (.done .next)
            | .ret v => .pure (.done (.ret v))) (H' := (fun e => (do noteFrame e env; theTreesLotGoes e : Sem Unit).wrap (fun _ => .raise e) .raise id id))
        (fun f => by cases f <;> rfl) (fun e => by first | exact Sem.bind_eq_wrap _ _ | (show (do noteFrame e env; theTreesLotGoes e : Sem Unit).bind (fun _ => .raise e) = _; rw [Sem.bind_eq_wrap]))]
    exact h3
theorem seg_blk0 (h : Seg (model prog w) Ar R Y n s₀ (.block [] env) (.pure (.done .next)) fs s) : Seg (model prog w) Ar R Y n s₀ (.block [] env) ((model prog w).den (.block [] env)) fs s := by
  show Seg (model prog w) Ar R Y n s₀ _ ((execs [] env).onRaise (fun x => do noteFrame x env; theTreesLotGoes x) >>= fun f => pure (.done f)) fs s
  exact seg_bind (wpAny_onRaise (wpAny_execs_nil h))
end
section
variable {X : Cx} {N : Nm} {E : XK}
theorem eg_for {tg iter : PySem.Expr} {body : List Stmt} {pos : Pos} {t : Tg} {src : SI} {f : SGn} (hp : PassesOwn (model X.prog X.w) X.A X.env X.xe) (hcm : X.calm = true) (hi : PI X tg iter (LI X.K N (fun c d _ H' => E c d H') src)) (hg : PG X tg (tgOf X.K t)) (hb : EGs X N E body f)
    (hs : ∀ x, foldedSetIterable iter X.env x = pure x := by intro _; rfl) : EG1 X N E (.For tg iter body [] pos) (gFor t src f) := by
  refine ⟨fun C ρ0 ga g A ip R n a s₀ sh c fs K J gd lv ls h ρ σ H ct hn S hx o => ?_⟩
  obtain ⟨tp, hT, ci, I⟩ := S.inv
  unfold gFor at o
  rw [exec_For]
  refine seg_bind_wrap (wpAny_standAt ?_)
  have pre : LI X.K N (fun c d _ H' => E c d H') src σ H fun J1 H1 => ∃ xs g h1 ρ1, src ls h = .ok xs g h1 ∧ Ex ρ ρ1 H H1 ∧ HR X.K N ρ1 h1 H1 ∧ SrcOk X.K N ρ1 H1 xs g J1 := by
    refine ⟨ρ, ls, h, S.lr, S.hr, ?_⟩
    cases e : src ls h with
    | ok xs g h1 => exact fun ρ' H' J1 ex r sk => ⟨xs, g, h1, ρ', rfl, ex, r, sk⟩
    | exc c fs h' => rw [e] at o; exact fun ρ' H' d ex r x => o ρ' H' d (S.ex.trans ex) r x
    | bad => rw [e] at o; exact o
  refine seg_bind_wrap ?_
  rw [ct.over]
  refine wpAny_mono (hi.run _ sh σ H _ I pre) (fun v s1 h1 => ?_) fun x s' hx' => hx n s₀ x s' hx'
  refine seg_bind_wrap (wpAny_of_eq (hs v) ?_)
  refine seg_bind_wrap (wpAny_standAt ?_)
  refine seg_bind_wrap (wpAny_holding ?_)
  rw [ct.over]
  refine wpAny_mono h1 (fun itv s2 h2 => ?_) fun x s' hx' => hx n s₀ x s' hx'
  obtain ⟨it, fp, tn, J1, H2, rfl, I2, T, st2, f2, xs, gg, hp1, ρ1, es, ex1, r1, SK⟩ := h2
  rw [es] at o
  refine seg_call fun p => ?_
  have gl := fun (kk : Result → Sem PySem.Fin) => gct_loop (k := kk) (c' := .forLoop tg (.ref it) body [] X.env) (l := lv []) (kp := []) (p := p) ct rfl rfl
  have glb := fun (kk : Result → Sem PySem.Fin) => gct_loop (k := kk) (c' := .block [] X.env) (l := lv []) (kp := []) (p := p) ct rfl rfl
  -- the iterator's objects
  have fpT : ∀ b ∈ fp, b ∉ C.T := fun b hb z => by
    rw [← hT] at z
    obtain ⟨q, hq, rfl⟩ := List.mem_map.mp z
    exact (f2 _ hb).2.2.2.2.2 q (List.mem_append_right _ (List.mem_append_left _ hq)) rfl
  have fpip : ∀ b ∈ fp, ∀ q ∈ X.pn ++ ip, q.1 ≠ b := fun b hb q hq => (f2 b hb).2.2.2.2.2 q (by
    rcases List.mem_append.mp hq with z | z
    · exact List.mem_append_left _ z
    · exact List.mem_append_right _ (List.mem_append_right _ z))
  have fok : ∀ {tp' : List (Addr × Obj)} {H' : Hp}, tp'.map (·.1) = C.T → (∀ b ∈ fp, H' b = none) → ∀ b ∈ fp, FpOk X (tp' ++ ip) H' b := fun {tp' H'} hT' hn b hb => by
    obtain ⟨_, q1, q2, q3, q4, _⟩ := f2 b hb
    refine ⟨hn b hb, q1, q2, q3, q4, fun q hq => ?_⟩
    rcases List.mem_append.mp hq with z | z
    · exact fpip b hb q (List.mem_append_left _ z)
    · rcases List.mem_append.mp z with z | z
      · exact fun e => fpT b hb (by rw [← hT', ← e]; exact List.mem_map_of_mem z)
      · exact fpip b hb q (List.mem_append_right _ z)
  have exl : Ex ρ0 ρ1 X.H_0 H2 := S.ex.trans ex1
  let C' : GCon X.K := { T := C.T, c := C.c, CI := C.CI, st := C.st, M := fun ρ H => C.M ρ H ∧ Ex ρ1 ρ H2 H, mst := fun a e => ⟨C.mst a.1 e, a.2.trans e⟩ }
  have down : ∀ {ip' : List (Addr × Obj)} {a : GA} {ls : Ls} {h : Heap} {ρ : List Addr} {σ : L2.St} {H : Hp} {s : Shared}, GSt X N C' ρ0 ip' a ls h ρ σ H s → GSt X N C ρ0 ip' a ls h ρ σ H s := fun S => ⟨S.ex, S.lr, S.hr, S.mo.1, S.inv⟩
  have loop : ∀ (ys : List W) (i n : Nat) (a : GA) (s₀ s : Shared) (ls : Ls) (h : Heap) (ρ2 : List Addr) (σ : L2.St) (H : Hp), ys = xs.drop i → i ≤ xs.length → n + a.k = sizeLine → GSt X N C' ρ0 ip a ls h ρ2 σ H s → tn i s.heap → (∀ b ∈ fp, H b = none) →
      GOut X N C ρ0 ip E (fun n s₀ f s => Seg (model X.prog X.w) A R (YE X.prog X.w X.K N C X.outer X.H_0 X.s_0 ρ0 ga g) n s₀ c (K f) fs s) (gForL t f gg ys C.c a ls h) →
      Seg (model X.prog X.w) A R (YE X.prog X.w X.K N C X.outer X.H_0 X.s_0 ρ0 ga g) n s₀ (.forLoop tg (.ref it) body [] X.env) ((model X.prog X.w).den (.forLoop tg (.ref it) body [] X.env))
        (.ret (fun r => ((match r with | .ok f => (.pure f : Sem Flow) | .error e => .raise e).onRaise (cameBack X.env)).wrap K J gd lv) none (gd false) (lv []) c p [] :: fs) s := by
    intro ys
    induction ys with
    | nil =>
      intro i n a s₀ s ls h ρ2 σ H ey hi' hn S st nn o
      have ex := S.mo.2
      have : i = xs.length := by
        have := congrArg List.length ey
        simp only [List.length_nil, List.length_drop] at this
        omega
      subst this
      rw [gForL] at o
      split at o
      · rename_i ok
        obtain ⟨tp', hT', ci', I'⟩ := S.inv
        refine seg_forL ?_
        rw [(gl _).over]
        have td := T.done X rfl rfl rfl hcm xs.length (tp' ++ ip) s σ H (fun _ _ => False) I' (fok hT' nn) st (SK.stop ρ2 h H ex S.hr ok)
        refine wpAny_mono td (fun r s3 hr => ?_) fun _ _ z => z
        obtain ⟨hr, I3⟩ := hr
        subst hr
        refine seg_blk0 ?_
        exact seg_leaf (.ok .next) (o n s₀ ρ2 σ H s3 hn ⟨S.ex, S.lr, S.hr, S.mo.1, tp', hT', ci', I3⟩)
      · exact o.elim
    | cons y ys ih =>
      intro i n a s₀ s ls h ρ2 σ H ey hi' hn S st nn o
      have ex := S.mo.2
      have hlt : i < xs.length := by
        have := congrArg List.length ey
        simp only [List.length_cons, List.length_drop] at this
        omega
      have ee : ∀ (n : Nat) (s₀ : Shared) (x : Value) (s' : Shared), X.xe x s' → Seg (model X.prog X.w) A R (YE X.prog X.w X.K N C X.outer X.H_0 X.s_0 ρ0 ga g) n s₀ (.forLoop tg (.ref it) body [] X.env)
          ((do noteFrame x X.env; theTreesLotGoes x : Sem Unit).wrap (fun _ => .raise x) .raise id id)
          (.ret (fun r => ((match r with | .ok f => (.pure f : Sem Flow) | .error e => .raise e).onRaise (cameBack X.env)).wrap K J gd lv) none (gd false) (lv []) c p [] :: fs) s' := fun n s₀ x s' hx' => by
        refine seg_wrap ?_
        rw [(gl _).over]
        refine wpAny_bind (wpAny_mono (hp x s' hx') (fun _ s'' hcb => wpAny_theTreesLotGoes ?_) fun y s'' hcb => ?_)
        · exact seg_leaf (.error x) (seg_back ct.over hx hcb)
        · exact seg_leaf (.error y) (seg_back ct.over hx hcb)
      rw [gForL] at o
      split at o
      case isFalse => exact o.elim
      rename_i ok
      obtain ⟨tp', hT', ci', I'⟩ := S.inv
      refine seg_forL ?_
      rw [(gl _).over]
      have ti := T.item X rfl rfl rfl hcm i (tp' ++ ip) s σ H (fun _ _ => False) I' (fok hT' nn) st (SK.go i ρ2 h H ex S.hr ok hlt)
      refine wpAny_mono ti (fun r s3 hr => ?_) fun _ _ z => z
      obtain ⟨u, hr, h6⟩ := hr
      subst hr
      refine wpAny_mono h6 (fun _ s4 h7 => ?_) fun _ _ z => z
      obtain ⟨x, H4, I4, rx, yx, st4, n4⟩ := h7
      obtain ⟨wv, ew, vw, r4, ex4⟩ := SK.yld i ρ2 h H x H4 ex S.hr ok hlt yx
      have hy : y = wv := by
        rw [List.drop_eq_getElem_cons hlt] at ey
        injection ey with e1 e2
        rw [List.getElem?_eq_getElem hlt] at ew
        rw [e1]; exact Option.some.inj ew
      subst hy
      split at o
      case h_2 => exact o.elim
      rename_i ls1 eb
      have I5 := I4.pinned (fok hT' n4) (T.obj _ _ st4)
      have hgg : tgOf X.K t x σ H4 fun σ2 H3 => H3 = H4 ∧ LR X.K ρ2 H4 ls1 σ2 := tg_in (S.lr.ex ex4) vw eb fun σ2 l2 _ => ⟨rfl, l2⟩
      refine wpAny_mono (hg.run _ s4 σ H4 x u _ I5 rx hgg) (fun _ s5 h8 => ?_) fun e s' z => ee n s₀ e s' z
      obtain ⟨σ5, H5, I6, rfl, l5⟩ := h8
      have pinb : ∀ q ∈ pinsAt fp s4.heap, q.1 ∉ C.T := fun q hq => fpT q.1 (of_pinsAt hq).1
      have hip : ∀ q ∈ X.pn ++ (ip ++ pinsAt fp s4.heap), q.1 ∉ C'.T := fun q hq => by
        rcases List.mem_append.mp hq with z | z
        · exact ct.ip q (List.mem_append_left _ z)
        · rcases List.mem_append.mp z with z | z
          · exact ct.ip q (List.mem_append_right _ z)
          · exact pinb q z
      have ct0 := gl (fun r => ((match r with | .ok f => (.pure f : Sem Flow) | .error e => .raise e).onRaise (cameBack X.env)).wrap K J gd lv)
      have ct' : GCt X C' ga g (ip ++ pinsAt fp s4.heap) A (.forLoop tg (.ref it) body [] X.env) (.ret (fun r => ((match r with | .ok f => (.pure f : Sem Flow) | .error e => .raise e).onRaise (cameBack X.env)).wrap K J gd lv) none (gd false) (lv []) c p [] :: fs) id :=
        ⟨hip, ct0.loc, ct0.gen, ct0.cells, ct0.ex0, ct0.over, ct0.split, ct0.guard, ct0.gd⟩
      have S6 : GSt X N C' ρ0 (ip ++ pinsAt fp s4.heap) a ls1 h ρ2 σ5 H5 s5 := ⟨S.ex.trans ex4, l5, r4, C'.mst S.mo ex4, tp', hT', C.st ci' ex4, by rw [← List.append_assoc]; exact I6⟩
      -- behind the body: the iterator's objects stand
      have nextS : ∀ {a2 : GA} {ls2 : Ls} {h2 : Heap} {ρ6 : List Addr} {σ6 : L2.St} {H6 : Hp} {s6 : Shared}, GSt X N C' ρ0 (ip ++ pinsAt fp s4.heap) a2 ls2 h2 ρ6 σ6 H6 s6 → GSt X N C' ρ0 ip a2 ls2 h2 ρ6 σ6 H6 s6 ∧ tn (i + 1) s6.heap ∧ ∀ b ∈ fp, H6 b = none := fun {a2 ls2 h2 ρ6 σ6 H6 s6} S6 => by
        obtain ⟨tp6, hT6, ci6, I6⟩ := S6.inv
        rw [← List.append_assoc] at I6
        have pin' : ∀ b ∈ fp, ∀ o, s4.heap.get? b = some o → s6.heap.get? b = some o ∧ H6 b = none := fun b hb o e =>
          let z := I6.pin (b, o) (List.mem_append_right _ (List.mem_append_right _ (mem_pinsAt hb e)))
          ⟨z.1, z.2.1⟩
        refine ⟨⟨S6.ex, S6.lr, S6.hr, S6.mo, tp6, hT6, ci6, I6.unpinned⟩, T.keep _ _ _ st4 fun b hb o e => (pin' b hb o e).1, fun b hb => ?_⟩
        obtain ⟨o, e, _⟩ := T.obj _ _ st4 b hb
        exact (pin' b hb o e).2
      refine hb.run C' ρ0 ga g A (ip ++ pinsAt fp s4.heap) R n a s₀ s5 _ _ _ _ id id ls1 h ρ2 σ5 H5 ct' hn S6 ee ?_
      show GOut X N C' ρ0 (ip ++ pinsAt fp s4.heap) E _ (f C.c a ls1 h)
      cases ef : f C.c a ls1 h with
      | nx a2 ls2 h2 =>
        rw [ef] at o
        intro n2 s₀2 ρ6 σ6 H6 s6 hn2 S7
        obtain ⟨z1, z2, z3⟩ := nextS S7
        exact seg_again rfl (ih (i + 1) n2 a2 s₀2 s6 ls2 h2 ρ6 σ6 H6 (by rw [List.drop_eq_getElem_cons hlt] at ey; exact (List.cons.inj ey).2) hlt hn2 z1 z2 z3 o)
      | ct a2 ls2 h2 =>
        rw [ef] at o
        intro n2 s₀2 ρ6 σ6 H6 s6 hn2 S7
        obtain ⟨z1, z2, z3⟩ := nextS S7
        exact seg_again rfl (ih (i + 1) n2 a2 s₀2 s6 ls2 h2 ρ6 σ6 H6 (by rw [List.drop_eq_getElem_cons hlt] at ey; exact (List.cons.inj ey).2) hlt hn2 z1 z2 z3 o)
      | bk a2 ls2 h2 =>
        rw [ef] at o
        exact fun n2 s₀2 ρ6 σ6 H6 s6 hn2 S7 => seg_leaf (.ok .next) (o n2 s₀2 ρ6 σ6 H6 s6 hn2 (down (nextS S7).1))
      | rt a2 w2 h2 =>
        rw [ef] at o
        exact fun n2 s₀2 ls2 ρ6 σ6 H6 s6 v u hn2 S7 x2 r2 => seg_leaf (.ok (.ret u)) (o n2 s₀2 ls2 ρ6 σ6 H6 s6 v u hn2 (down (nextS S7).1) x2 r2)
      | exc c fs h2 => rw [ef] at o; exact o
      | bad => rw [ef] at o; exact o
  exact loop xs 0 n a s₀ s2 ls hp1 ρ1 σ H2 (by rw [List.drop_zero]) (Nat.zero_le _) hn ⟨exl, S.lr.ex ex1, r1, ⟨C.mst S.mo ex1, Ex.refl _ _⟩, tp, hT, C.st ci ex1, I2⟩ st2 (fun b hb => (f2 b hb).1) o
end
end Ev
set_option maxRecDepth 100000
/-! EvCtx: the generators contexts and links. -/
namespace EvF
open PySem L2 Ev
def s_contexts : SGn := gSq (gPl (sExpr (eCall (fun xs ys h => F_need_fault (pick [(false, 0)] xs ys) h) 1 0 (aCons (eVar 0) (aNil)) (aNil)))) (gSq (gPl (sAsg (eAttr (atP 0 F_Fault_context) 9 (eVar 0)) (gNm 1))) (gSq (gWh (bVal (eBin wIsnt (eVar 1) (eW .non))) (gSq (gYi (eVar 1)) (gSq (gPl (sAsg (eAttr (atP 0 F_Fault_context) 9 (eVar 1)) (gNm 1))) (gNil))) 100000) (gNil)))
@[irreducible] def F_contexts : Con → List W → Ev.Heap → GD := gFn 1 2 s_contexts
def s_links : SGn := gSq (gPl (sAsg (eCall (fun xs ys h => F_chain_parts (pick [(false, 0)] xs ys) h) 1 0 (aCons (eVar 0) (aNil)) (aNil)) (gTp [gNm 1, gNm 2, gNm 3]))) (gSq (gFor (.two 4 5) (iZipSW (aCons (eVar 2) (aCons (eSl (eVar 1) (oSome (eW (.int 1))) (oNone)) (aNil)))) (gSq (gYi (eTup (aCons (eVar 4) (aCons (eVar 5) (aNil))))) (gNil))) (gNil))
@[irreducible] def F_links : Con → List W → Ev.Heap → GD := gFn 1 6 s_links
/-! the contexts of a fault -/
inductive Ctxs (G : Nat → Flt) : Option Nat → List Nat → Prop
  | nil : Ctxs G none []
  | cons {m : Nat} {l : List Nat} : Ctxs G (G m).ctx l → Ctxs G (some m) (m :: l)
theorem Ctxs.of {G : Nat → Flt} : ∀ {n k : Nat}, Ends G n k → ∃ l : List Nat, l.length = k ∧ Ctxs G (G n).ctx l
  | _, _, .nil a => ⟨[], rfl, by rw [a]; exact .nil⟩
  | _, _, .cons (m := m) a r => by
    obtain ⟨l, h1, h2⟩ := Ctxs.of r
    exact ⟨m :: l, by simp [h1], by rw [a]; exact .cons h2⟩
theorem Ctxs.mem {G : Nat → Flt} {fs : List Nat} (c : ∀ n ∈ fs, ∀ m, (G n).ctx = some m → m ∈ fs) : ∀ {n k : Nat} {l : List Nat}, n ∈ fs → Ends G n k → Ctxs G (G n).ctx l → ∀ z ∈ l, z ∈ fs ∧ ∃ j, j < k ∧ Ends G z j
  | n, _, l, mn, .nil a, h => by
    rw [a] at h
    cases h
    simp
  | n, _, l, mn, .cons (m := m) (k := k) a r, h => by
    rw [a] at h
    cases h with
    | cons h2 =>
      have mm := c n mn m a
      intro z mz
      rcases List.mem_cons.mp mz with rfl | mz
      · exact ⟨mm, k, Nat.lt_succ_self _, r⟩
      · obtain ⟨q1, j, q2, q3⟩ := Ctxs.mem c mm r h2 z mz
        exact ⟨q1, j, Nat.lt_succ_of_lt q2, q3⟩
theorem nx_of {r : SR} {l0 : Ls} {h0 : Ev.Heap} (h : r.to { nx := fun l h => l = l0 ∧ h = h0, rt := fun _ _ => False, bk := fun _ _ => False, ct := fun _ _ => False, ex := fun _ _ _ _ => False }) : r = .nx l0 h0 := by
  cases r with
  | nx l h' => obtain ⟨rfl, rfl⟩ := h; rfl
  | _ => exact h.elim
theorem ok_of {r : R} {w : W} {h0 : Ev.Heap} (h : r.to (fun v h => v = w ∧ h = h0) fun _ _ _ => False) : r = .ok w h0 := by
  cases r with
  | ok l h' => obtain ⟨rfl, rfl⟩ := h; rfl
  | _ => exact h.elim
section
variable {h : Ev.Heap} {n d g : Nat} {Q : W → Ev.Heap → Prop} {E : Nat → List (Nat × W) → Ev.Heap → Prop} {fs : List Nat} {G : Nat → Flt} {P : Po}
theorem asg_eq {m : Nat} {x0 : Option W} (a : FltAt h m (G m)) : sAsg (eAttr (atP 0 F_Fault_context) 9 (eVar 1)) (gNm 1) [x0, some (.ref m)] h = .nx [x0, some (oW (G m).ctx)] h := by
  refine nx_of ?_
  have a' : h.get m = _ := a
  simp [a']
  exact context_to a ⟨rfl, rfl⟩
theorem tst_non {x0 : Option W} : bVal (eBin wIsnt (eVar 1) (eW .non)) [x0, some .non] h = .ok false h := by
  simp [bVal, eBin, eVar, eW, wIsnt, W.eqb]
theorem tst_ref {x0 : Option W} {m : Nat} : bVal (eBin wIsnt (eVar 1) (eW .non)) [x0, some (.ref m)] h = .ok true h := by
  simp [bVal, eBin, eVar, eW, wIsnt, W.eqb]
theorem wh_eq {f : List W → Nat → List W} {c : Con} {x0 : Option W} : ∀ {o : Option Nat} {l : List Nat}, Ctxs G o l → (∀ m ∈ l, FltAt h m (G m)) → (∀ m ∈ l, ∀ ws, c ws (.ref m) h = some (f ws m, h)) → ∀ (fuel k : Nat) (ws : List W), l.length < fuel → k + l.length ≤ sizeLine →
    gWh (bVal (eBin wIsnt (eVar 1) (eW .non))) (gSq (gYi (eVar 1)) (gSq (gPl (sAsg (eAttr (atP 0 F_Fault_context) 9 (eVar 1)) (gNm 1))) (gNil))) fuel c ⟨k, ws⟩ [x0, some (oW o)] h = .nx ⟨k + l.length, l.foldl f ws⟩ [x0, some .non] h
  | _, _, .nil, _, _, fuel + 1, k, ws, _, _ => by
    rw [gWh, show oW none = .non from rfl, tst_non]
    rfl
  | _, _, .cons (m := m) (l := l) r, ha, hc, fuel + 1, k, ws, hf, hk => by
    rw [gWh, show oW (some m) = .ref m from rfl, tst_ref]
    simp only [List.length_cons] at hf hk
    have e1 : gYi (eVar 1) c ⟨k, ws⟩ [x0, some (.ref m)] h = .nx ⟨k + 1, f ws m⟩ [x0, some (.ref m)] h := by
      have e : eVar 1 [x0, some (.ref m)] h = .ok (.ref m) h := rfl
      simp only [gYi, e, hc m (by simp) ws]
      rw [if_pos (by omega)]
    have e2 : gPl (sAsg (eAttr (atP 0 F_Fault_context) 9 (eVar 1)) (gNm 1)) c ⟨k + 1, f ws m⟩ [x0, some (.ref m)] h = .nx ⟨k + 1, f ws m⟩ [x0, some (oW (G m).ctx)] h := by
      simp only [gPl, asg_eq (ha m (by simp))]
    have e3 : gSq (gYi (eVar 1)) (gSq (gPl (sAsg (eAttr (atP 0 F_Fault_context) 9 (eVar 1)) (gNm 1))) (gNil)) c ⟨k, ws⟩ [x0, some (.ref m)] h = .nx ⟨k + 1, f ws m⟩ [x0, some (oW (G m).ctx)] h := by
      simp only [gSq, e1, e2, Ev.gNil]
    simp only [e3]
    rw [wh_eq r (fun z mz => ha z (by simp [mz])) (fun z mz => hc z (by simp [mz])) fuel (k + 1) (f ws m) (by omega) (by omega)]
    simp only [List.foldl_cons, List.length_cons]
    rw [show k + 1 + l.length = k + (l.length + 1) by omega]
theorem ctxs_eq {f : List W → Nat → List W} {c : Con} {l : List Nat} (a : FltAt h n (G n)) (r : Ctxs G (G n).ctx l) (ha : ∀ m ∈ l, FltAt h m (G m)) (hc : ∀ m ∈ l, ∀ ws, c ws (.ref m) h = some (f ws m, h)) (hl : l.length ≤ 1000) : F_contexts c [.ref n] h = .ok ⟨l.length, l.foldl f []⟩ h := by
  have hz : sizeLine = 16777216 := sizeLine_eq
  have a' : h.get n = _ := a
  have e1 : sExpr (eCall (fun xs ys h => F_need_fault (pick [(false, 0)] xs ys) h) 1 0 (aCons (eVar 0) (aNil)) (aNil)) [some (.ref n), none] h = .nx [some (.ref n), none] h := by
    refine nx_of ?_
    simp [pick]
    exact need_to a rfl
  have e2 : sAsg (eAttr (atP 0 F_Fault_context) 9 (eVar 0)) (gNm 1) [some (.ref n), none] h = .nx [some (.ref n), some (oW (G n).ctx)] h := by
    refine nx_of ?_
    simp [a']
    exact context_to a ⟨rfl, rfl⟩
  unfold F_contexts s_contexts gFn
  have e3 := wh_eq (x0 := some (.ref n)) r ha hc 100000 0 [] (by omega) (by omega)
  simp only [Nat.zero_add] at e3
  rw [if_pos (show ([W.ref n] : List W).length = 1 from rfl)]
  rw [show (List.map some [W.ref n] ++ List.replicate (2 - 1) none : Ls) = [some (.ref n), none] from rfl]
  simp only [gSq, gPl, e1, e2, e3, Ev.gNil]
theorem ixn_to {k i : Nat} {xs : List W} {w : W} (e : h.get k = some (.lst xs)) (hi : xs[i]? = some w) (q : Q w h) : (wIx (.ref k) (.int (i : Int)) h).to Q E := by
  rw [o_ix_int]
  refine .inl ⟨xs, w, e, ?_, q⟩
  have hl : i < xs.length := (List.getElem?_eq_some_iff.mp hi).1
  simp [atI, ixN, hl]
  exact (List.getElem?_eq_some_iff.mp hi).2
theorem ixN_nat {n i : Nat} (h : i < n) : ixN n (i : Int) = some i := by simp [ixN, h]
theorem wset_to {k i : Nat} {xs : List W} {w : W} (e : h.get k = some (.lst xs)) (hi : i < xs.length) : wSet (.ref k) (.int (i : Int)) w h = some (h.put k (.lst (xs.set i w))) := by
  simp only [wSet, e, ixN_nat hi]
theorem sq {a b : SS} {ls : Ls} : (sSeq a b ls h).to P ↔ (a ls h).to { nx := fun l h => (b l h).to P, rt := P.rt, bk := P.bk, ct := P.ct, ex := P.ex } := by simp
@[irreducible] def Tow (r : SR) (P : Po) : Prop := r.to P
theorem tow_iff {r : SR} : Tow r P ↔ r.to P := by unfold Tow; rfl
theorem Stop.det {G : Nat → Flt} {f : Nat} : ∀ {x y z j k : Nat}, Stop G f x y j → Stop G f x z k → y = z
  | _, _, _, _, _, .here _, .here _ => rfl
  | _, _, _, _, _, .here a, .step b c _ => by rcases a with a | a <;> rw [a] at b <;> cases b; exact (c rfl).elim
  | _, _, _, _, _, .step b c _, .here a => by rcases a with a | a <;> rw [a] at b <;> cases b; exact (c rfl).elim
  | _, _, _, _, _, .step a _ r, .step b _ s => by rw [a] at b; cases b; exact Stop.det r s

/-! the links of a fault -/
def prs (ws : List Str) (ys : List Nat) : List W := List.zipWith (fun a y => W.tup [.str a, .ref y]) ws ys
theorem for_eq {f : List W → W → List W} {c : Con} : ∀ {ws : List Str} {ys : List Nat}, (∀ x ∈ prs ws ys, ∀ us, c us x h = some (f us x, h)) → ∀ (k : Nat) (us : List W) (x0 x1 x2 x3 x4 x5 : Option W), k + (prs ws ys).length ≤ sizeLine →
    ∃ z4 z5, gForL (.two 4 5) (gSq (gYi (eTup (aCons (eVar 4) (aCons (eVar 5) (aNil))))) (gNil)) [] (prs ws ys) c ⟨k, us⟩ [x0, x1, x2, x3, x4, x5] h = .nx ⟨k + (prs ws ys).length, (prs ws ys).foldl f us⟩ [x0, x1, x2, x3, z4, z5] h
  | [], _, _, k, us, x0, x1, x2, x3, x4, x5, _ => ⟨x4, x5, rfl⟩
  | _ :: _, [], _, k, us, x0, x1, x2, x3, x4, x5, _ => ⟨x4, x5, rfl⟩
  | a :: ws, y :: ys, hc, k, us, x0, x1, x2, x3, x4, x5, hk => by
    have hz : sizeLine = 16777216 := sizeLine_eq
    have ex : prs (a :: ws) (y :: ys) = .tup [.str a, .ref y] :: prs ws ys := rfl
    rw [ex] at hc hk ⊢
    simp only [List.length_cons] at hk
    have e1 : (gSq (gYi (eTup (aCons (eVar 4) (aCons (eVar 5) (aNil))))) (gNil)) c ⟨k, us⟩ [x0, x1, x2, x3, some (.str a), some (.ref y)] h = .nx ⟨k + 1, f us (.tup [.str a, .ref y])⟩ [x0, x1, x2, x3, some (.str a), some (.ref y)] h := by
      have e : eTup (aCons (eVar 4) (aCons (eVar 5) (aNil))) [x0, x1, x2, x3, some (.str a), some (.ref y)] h = .ok (.tup [.str a, .ref y]) h := by
        refine ok_of ?_
        simp [hz]
      simp only [gSq, gYi, e, hc (.tup [.str a, .ref y]) (List.mem_cons_self ..) us, Ev.gNil]
      rw [if_pos (by omega)]
    obtain ⟨z4, z5, ih⟩ := for_eq (ws := ws) (ys := ys) (fun x m => hc x (by simp [m])) (k + 1) (f us (.tup [.str a, .ref y])) x0 x1 x2 x3 (some (.str a)) (some (.ref y)) (by omega)
    refine ⟨z4, z5, ?_⟩
    rw [gForL]
    simp only [gOk, List.all_nil, if_true, bindTg, List.set_cons_succ, List.set_cons_zero, e1, List.foldl_cons, List.length_cons]
    rw [show k + ((prs ws ys).length + 1) = k + 1 + (prs ws ys).length by omega]
    exact ih
theorem zipW_prs : ∀ (ws : List Str) (ys : List Nat), zipW (ws.map W.str) (ys.map W.ref) = prs ws ys
  | [], [] => rfl
  | [], _ :: _ => rfl
  | _ :: _, [] => rfl
  | a :: ws, y :: ys => by
    have := zipW_prs ws ys
    simp only [List.map_cons, zipW, prs, List.zipWith_cons_cons] at this ⊢
    first | exact congrArg _ this | simp [this]
theorem ok_ex {r : R} {w : W} {P : Ev.Heap → Prop} (z : r.to (fun v h' => v = w ∧ P h') fun _ _ _ => False) : ∃ h', r = .ok w h' ∧ P h' := by
  cases r with
  | ok l h' => obtain ⟨rfl, e⟩ := z; exact ⟨_, rfl, e⟩
  | _ => exact z.elim
theorem links_eq (p : Pool h fs G) (hs : fs.length ≤ 1000) (m : n ∈ fs) : ∃ h', Kp [] h h' ∧ ∀ (f : List W → W → List W) (c : Con), (∀ x ∈ prs (chainOf G n).W (chainOf G n).L.tail, ∀ us, c us x h' = some (f us x, h')) →
    ∃ k, F_links c [.ref n] h = .ok ⟨k, (prs (chainOf G n).W (chainOf G n).L.tail).foldl f []⟩ h' := by
  have hz : sizeLine = 16777216 := sizeLine_eq
  have ok := chainOf_ok p m
  have ll := nodup_le ok.nd ok.sub
  generalize ec : chainOf G n = ch at ok ll ⊢
  obtain ⟨h', e1, K⟩ := ok_ex (r := F_chain_parts [.ref n] h) (w := .tup [.tup (ch.L.map W.ref), .tup (ch.W.map W.str), oW ch.R]) (P := fun h' => Kp [] h h') (chain_parts_to p hs m fun h' K => by rw [ec]; exact ⟨rfl, K⟩)
  refine ⟨h', K, fun f c hc => ?_⟩
  have e2 : sAsg (eCall (fun xs ys h => F_chain_parts (pick [(false, 0)] xs ys) h) 1 0 (aCons (eVar 0) (aNil)) (aNil)) (gTp [gNm 1, gNm 2, gNm 3]) [some (.ref n), none, none, none, none, none] h = .nx [some (.ref n), some (.tup (ch.L.map W.ref)), some (.tup (ch.W.map W.str)), some (oW ch.R), none, none] h' := by
    refine nx_of ?_
    simp [pick]
    rw [e1]
    simp
  have e3 : iZipSW (aCons (eVar 2) (aCons (eSl (eVar 1) (oSome (eW (.int 1))) (oNone)) (aNil))) [some (.ref n), some (.tup (ch.L.map W.ref)), some (.tup (ch.W.map W.str)), some (oW ch.R), none, none] h' = .ok (prs ch.W ch.L.tail) [] h' := by
    have e : eSl (eVar 1) (oSome (eW (.int 1))) (oNone) [some (.ref n), some (.tup (ch.L.map W.ref)), some (.tup (ch.W.map W.str)), some (oW ch.R), none, none] h' = .ok (.tup (ch.L.tail.map W.ref)) h' := by
      refine ok_of ?_
      simp [wCut, HT.sIx]
      cases ch.L <;> simp [HT.sIx, List.take_of_length_le]
    have ea : eVar 2 [some (.ref n), some (.tup (ch.L.map W.ref)), some (.tup (ch.W.map W.str)), some (oW ch.R), none, none] h' = .ok (.tup (ch.W.map W.str)) h' := rfl
    have el := ok.len
    simp only [iZipSW, aCons, ea, e, aNil, List.length_map, List.length_tail]
    rw [if_pos (by omega), zipW_prs]
  obtain ⟨z4, z5, e4⟩ := for_eq (h := h') (f := f) (c := c) hc 0 [] (some (.ref n)) (some (.tup (ch.L.map W.ref))) (some (.tup (ch.W.map W.str))) (some (oW ch.R)) none none (by
    have : (prs ch.W ch.L.tail).length ≤ ch.W.length := by unfold prs; rw [List.length_zipWith]; omega
    have := ok.len
    omega)
  refine ⟨0 + (prs ch.W ch.L.tail).length, ?_⟩
  unfold F_links s_links gFn
  rw [if_pos (show ([W.ref n] : List W).length = 1 from rfl)]
  rw [show (List.map some [W.ref n] ++ List.replicate (6 - 1) none : Ls) = [some (.ref n), none, none, none, none, none] from rfl]
  simp only [gSq, gPl, e2, gFor, e3] at e4 ⊢
  rw [e4]
  simp only [Ev.gNil]
end
end EvF
set_option maxRecDepth 100000
/-! EvChP: plain laws of chains. -/
namespace EvF
open PySem L2 Ev
def PathL (G : Nat → Flt) : List Nat → Prop
  | x :: y :: r => (∃ a, nextL (G x) = some (a, y)) ∧ PathL G (y :: r)
  | _ => True
section
variable {G : Nat → Flt}
theorem PathL.drop : ∀ {a b : List Nat}, PathL G (a ++ b) → PathL G b
  | [], _, h => h
  | [x], [], _ => trivial
  | [x], y :: b, h => h.2
  | x :: y :: a, b, h => PathL.drop (a := y :: a) h.2
theorem PathL.snoc : ∀ {l : List Nat} {x y : Nat} {a : Str}, PathL G (l ++ [x]) → nextL (G x) = some (a, y) → PathL G (l ++ [x] ++ [y])
  | [], x, y, a, _, e => ⟨⟨a, e⟩, trivial⟩
  | [z], x, y, a, h, e => ⟨h.1, ⟨a, e⟩, trivial⟩
  | z :: z2 :: l, x, y, a, h, e => ⟨h.1, PathL.snoc (l := z2 :: l) h.2 e⟩
theorem chn_path : ∀ (k : Nat) {l : List Nat} {w : List Str} {x : Nat}, PathL G (l ++ [x]) → PathL G (chn G k (l ++ [x]) w x).L
  | 0, _, _, _, h => h
  | k + 1, l, w, x, h => by
    unfold chn
    cases e : nextL (G x) with
    | none => exact h
    | some ay =>
      obtain ⟨a, y⟩ := ay
      simp only
      split
      · exact h
      · exact chn_path k (h.snoc e)
theorem chn_pre : ∀ (k : Nat) {l : List Nat} {w : List Str} {x : Nat}, ∃ t u, (chn G k l w x).L = l ++ t ∧ (chn G k l w x).W = w ++ u
  | 0, l, w, _ => ⟨[], [], by simp [chn], by simp [chn]⟩
  | k + 1, l, w, x => by
    unfold chn
    cases e : nextL (G x) with
    | none => exact ⟨[], [], by simp, by simp⟩
    | some ay =>
      obtain ⟨a, y⟩ := ay
      simp only
      split
      · exact ⟨[], [], by simp, by simp⟩
      · obtain ⟨t, u, h1, h2⟩ := chn_pre k (l := l ++ [y]) (w := w ++ [a]) (x := y)
        exact ⟨y :: t, a :: u, by rw [h1]; simp, by rw [h2]; simp⟩
theorem chn_go : ∀ {r : List Nat} {k : Nat} {l : List Nat} {w : List Str} {x : Nat}, PathL G (x :: r) → (l ++ r).Nodup → r.length ≤ k → ∃ t, (chn G k l w x).L = l ++ r ++ t
  | [], k, l, w, x, _, _, _ => by
    obtain ⟨t, _, h, _⟩ := chn_pre (G := G) k (l := l) (w := w) (x := x)
    exact ⟨t, by rw [h]; simp⟩
  | y :: r, 0, l, w, x, _, _, h => by simp at h
  | y :: r, k + 1, l, w, x, ⟨⟨a, e⟩, hp⟩, nd, h => by
    have ny : y ∉ l := fun z => by
      have := (List.nodup_append.mp nd).2.2 y z y (by simp)
      exact this rfl
    unfold chn
    rw [e]
    simp only [if_neg ny]
    obtain ⟨t, ht⟩ := chn_go (k := k) (l := l ++ [y]) (w := w ++ [a]) hp (by simpa using nd) (by simpa using h)
    exact ⟨t, by rw [ht]; simp⟩
theorem rest_eq {fs : List Nat} {h : Ev.Heap} {n i y : Nat} (p : Pool h fs G) (hs : fs.length ≤ 1000) (m : n ∈ fs) (e : (chainOf G n).L[i]? = some y) : (chainOf G y).L.take ((chainOf G n).L.length - i) = (chainOf G n).L.drop i := by
  have ok := chainOf_ok p m
  have ll := nodup_le ok.nd ok.sub
  have hp : PathL G (chainOf G n).L := chn_path 2000 (l := []) trivial
  have nd := ok.nd
  generalize (chainOf G n).L = L at e ll hp nd ⊢
  have hi := (List.getElem?_eq_some_iff.mp e).1
  have e1 : L.drop i = y :: L.drop (i + 1) := by rw [List.drop_eq_getElem_cons hi, (List.getElem?_eq_some_iff.mp e).2]
  rw [← List.take_append_drop i L, e1] at hp nd
  have hp := hp.drop
  have nd2 := (List.nodup_append.mp nd).2.1
  obtain ⟨t, ht⟩ := chn_go (k := 2000) (l := [y]) (w := []) hp nd2 (by simp; omega)
  unfold chainOf
  rw [ht, e1]
  have : L.length - i = ([y] ++ L.drop (i + 1)).length := by simp; omega
  rw [this, List.take_append_of_le_length (Nat.le_refl _), List.take_length]
  rfl
/-- contexts alone -/
theorem chn_ctx : ∀ {r : List Nat} {k : Nat} {l : List Nat} {w : List Str} {x : Nat}, Ctxs G (G x).ctx r → (∀ z ∈ x :: r, (G z).cau = none ∧ (G z).hid = false) → (l ++ r).Nodup → r.length < k → chn G k l w x = ⟨l ++ r, w ++ List.replicate r.length ("context" : Str), none⟩
  | [], k + 1, l, w, x, c, hx, _, _ => by
    have e : (G x).ctx = none := by
      generalize (G x).ctx = o at c
      cases c; rfl
    unfold chn
    simp [nextL, (hx x (by simp)).1, e]
  | y :: r, k + 1, l, w, x, c, hx, nd, h => by
    obtain ⟨e, c'⟩ : (G x).ctx = some y ∧ Ctxs G (G y).ctx r := by
      generalize (G x).ctx = o at c
      cases c with
      | cons c' => exact ⟨rfl, c'⟩
    have ny : y ∉ l := fun z => by
      have := (List.nodup_append.mp nd).2.2 y z y (by simp)
      exact this rfl
    have en : nextL (G x) = some (("context" : Str), y) := by simp [nextL, (hx x (by simp)).1, (hx x (by simp)).2, e]
    unfold chn
    rw [en]
    simp only [if_neg ny]
    rw [chn_ctx c' (fun z m => hx z (by simp [List.mem_cons.mp m])) (by simpa using nd) (by simpa using h)]
    simp [List.replicate_succ]
theorem chainOf_ctx {n : Nat} {r : List Nat} (c : Ctxs G (G n).ctx r) (hx : ∀ z ∈ n :: r, (G z).cau = none ∧ (G z).hid = false) (nd : (n :: r).Nodup) (h : r.length < 2000) : chainOf G n = ⟨n :: r, List.replicate r.length ("context" : Str), none⟩ := by
  unfold chainOf
  rw [chn_ctx c hx nd h]
  simp
/-- a source: the first step -/
theorem chainOf_self {n : Nat} (e : (G n).cau = some n) : chainOf G n = ⟨[n], [], some n⟩ := by
  show chn G (1999 + 1) [n] [] n = _
  unfold chn
  have en : nextL (G n) = some (("cause" : Str), n) := by simp [nextL, e]
  rw [en]
  simp
theorem chainOf_cause {n m : Nat} (e : (G n).cau = some m) (ne : m ≠ n) : chainOf G n = chn G 1999 [n, m] ["cause"] m := by
  show chn G (1999 + 1) [n] [] n = _
  rw [chn]
  have en : nextL (G n) = some (("cause" : Str), m) := by simp [nextL, e]
  rw [en]
  simp [ne]
theorem chainOf_end {n : Nat} (e : (G n).cau = none) (e2 : (G n).hid = true) : chainOf G n = ⟨[n], [], none⟩ := by
  show chn G (1999 + 1) [n] [] n = _
  unfold chn
  have en : nextL (G n) = none := by
    unfold nextL
    rw [e]
    cases (G n).ctx <;> simp [e2]
  rw [en]
/-- whether the chain comes back -/
theorem chn_back {fs : List Nat} {n : Nat} (cl : ∀ z ∈ fs, ∀ m, (G z).ctx = some m → m ∈ fs) (hz : ∀ z ∈ fs, z ≠ n → (G z).cau = none ∧ (G z).hid = false) : ∀ {j : Nat} {x : Nat}, Ends G x j → x ∈ fs → ∀ {k k' : Nat} {l : List Nat} {w w' : List Str}, x ≠ n → n ∉ l → (∀ z ∈ l, ∃ i, j ≤ i ∧ Ends G z i) → j < k → j < k' → ((chn G k (n :: l) w x).R = some n ↔ n ∈ (chn G k' l w' x).L)
  | _, x, .nil e, mx, k + 1, k' + 1, l, w, w', ne, nl, hl, _, _ => by
    have en : nextL (G x) = none := by simp [nextL, (hz x mx ne).1, e]
    unfold chn
    rw [en]
    simp [nl]
  | _, x, .cons (m := y) (k := j) e r, mx, k + 1, k' + 1, l, w, w', ne, nl, hl, h1, h2 => by
    have en : nextL (G x) = some (("context" : Str), y) := by simp [nextL, (hz x mx ne).1, (hz x mx ne).2, e]
    have ny : y ∉ l := fun z => by
      obtain ⟨i, h3, h4⟩ := hl y z
      have := Ends.det r h4
      omega
    by_cases zy : y = n
    · subst zy
      unfold chn
      rw [en]
      simp only [if_neg ny]
      obtain ⟨t, _, ht, _⟩ := chn_pre (G := G) k' (l := l ++ [y]) (w := w' ++ [("context" : Str)]) (x := y)
      rw [ht]
      simp
    · rw [chn, chn, en]
      have ny2 : y ∉ n :: l := by simp [zy, ny]
      simp only [if_neg ny, if_neg ny2]
      exact chn_back cl hz r (cl x mx y e) (l := l ++ [y]) zy (by simp [nl, Ne.symm zy]) (fun z m => by
        rcases List.mem_append.mp m with m | m
        · obtain ⟨i, h3, h4⟩ := hl z m; exact ⟨i, by omega, h4⟩
        · obtain rfl := List.mem_singleton.mp m; exact ⟨j, Nat.le_refl _, r⟩) (by omega) (by omega)
theorem back_iff {fs : List Nat} {n m j : Nat} (cl : ∀ z ∈ fs, ∀ m, (G z).ctx = some m → m ∈ fs) (hz : ∀ z ∈ fs, z ≠ n → (G z).cau = none ∧ (G z).hid = false) (e : (G n).cau = some m) (mm : m ∈ fs) (en : Ends G m j) (hj : j < 1900) : (chainOf G n).R = some n ↔ n ∈ (chainOf G m).L := by
  by_cases ne : m = n
  · subst ne
    rw [chainOf_self e]
    simp
  · rw [chainOf_cause e ne]
    unfold chainOf
    exact chn_back cl hz en mm (l := [m]) ne (by simp [Ne.symm ne]) (fun z mz => by simp at mz; subst mz; exact ⟨j, Nat.le_refl _, en⟩) (by omega) (by omega)
end
end EvF
set_option maxRecDepth 100000
namespace K11
open PySem L2 Ev
abbrev Prog : Program := PySem.Challenge.pw_exitstacks_k11_whole_links_and_chains
def top (i : Nat) : Stmt := Prog.main.body.getD i (.Pass ⟨0, 0, 0, 0⟩)
def nm (K : PySem.W.Frag) : Nm := ⟨fun i => He.ga K ((["Fault", "KindTree", "Chain"] : List Str).getD i ""), anOf ((["s1_kind", "s1_label", "s1_number", "s1_context", "s1_cause", "s1_hides", "kind", "label", "number", "context", "cause", "hides", "s1_parents", "kinds", "is_known", "s1_need", "way_up", "is_below", "common", "fits"] : List Str) ++ (["all_below", "s1_faults", "s1_ways", "s1_repeat", "faults", "ways", "repeat", "value", "index", "path", "line", "name", "count", "limit", "reason"] : List Str)), anOf_inj (by decide +kernel) (by decide +kernel)⟩
structure Gs (w : World) (K : PySem.W.Frag) (mg : Str → Option Value) : Prop where
  m_need_fault : mg "need_fault" = some (.ref (He.ga K "need_fault"))
  m_next_link : mg "next_link" = some (.ref (He.ga K "next_link"))
  m_chain_parts : mg "chain_parts" = some (.ref (He.ga K "chain_parts"))
  m__law_begun : mg "_law_begun" = some (.ref (He.ga K "_law_begun"))
  m_is_letter : mg "is_letter" = some (.ref (He.ga K "is_letter"))
  m_is_kind : mg "is_kind" = some (.ref (He.ga K "is_kind"))
  m_is_label : mg "is_label" = some (.ref (He.ga K "is_label"))
  m__law_next : mg "_law_next" = some (.ref (He.ga K "_law_next"))
  m_need_fault_or_none : mg "need_fault_or_none" = some (.ref (He.ga K "need_fault_or_none"))
  m_raise_under : mg "raise_under" = some (.ref (He.ga K "raise_under"))
  m__law_handled : mg "_law_handled" = some (.ref (He.ga K "_law_handled"))
  m__law_listed : mg "_law_listed" = some (.ref (He.ga K "_law_listed"))
  m__law_meeting_right : mg "_law_meeting_right" = some (.ref (He.ga K "_law_meeting_right"))
  m_contexts : mg "contexts" = some (.ref (He.ga K "contexts"))
  m_links : mg "links" = some (.ref (He.ga K "links"))
  m__law_plain_right : mg "_law_plain_right" = some (.ref (He.ga K "_law_plain_right"))
  m_with_cause : mg "with_cause" = some (.ref (He.ga K "with_cause"))
  m_law : mg "law" = some (.ref (He.ga K "law"))
  g_MOST_LABEL : ∃ t, mg "MOST_LABEL" = some (.int 40 t)
  g_MOST_LETTERS : ∃ t, mg "MOST_LETTERS" = some (.int 12 t)
  n_all : mg "all" = none
  n_bool : mg "bool" = none
  n_enumerate : mg "enumerate" = none
  n_int : mg "int" = none
  n_isinstance : mg "isinstance" = none
  n_len : mg "len" = none
  n_list : mg "list" = none
  n_max : mg "max" = none
  n_min : mg "min" = none
  n_ord : mg "ord" = none
  n_range : mg "range" = none
  n_str : mg "str" = none
  n_tuple : mg "tuple" = none
  n_zip : mg "zip" = none
  cl_Chain : Cls K (He.ga K "Chain")
  cl_Fault : Cls K (He.ga K "Fault")
  id_Fault : IdC K (He.ga K "Fault")
  nn_Fault : PySem.W.mroIn K (He.ga K "Fault") (.type "NoneType") = some false
  is_Fault : IsA K (nm K) 0
  m_Chain : mg "Chain" = some (.ref (He.ga K "Chain"))
  m_Fault : mg "Fault" = some (.ref (He.ga K "Fault"))
  me_Chain___getitem__ : Meth K (He.ga K "Chain") "__getitem__" (He.ma K (He.ga K "Chain") "__getitem__")
  me_Chain___len__ : Meth K (He.ga K "Chain") "__len__" (He.ma K (He.ga K "Chain") "__len__")
  mk_Chain : Mk K (He.ga K "Chain") (He.ma K (He.ga K "Chain") "__init__")
  mk_Fault : Mk K (He.ga K "Fault") (He.ma K (He.ga K "Fault") "__init__")
  na_Chain_s1_faults : NoAttr K (He.ga K "Chain") "s1_faults"
  na_Chain_s1_repeat : NoAttr K (He.ga K "Chain") "s1_repeat"
  na_Chain_s1_ways : NoAttr K (He.ga K "Chain") "s1_ways"
  na_Fault_s1_cause : NoAttr K (He.ga K "Fault") "s1_cause"
  na_Fault_s1_context : NoAttr K (He.ga K "Fault") "s1_context"
  na_Fault_s1_hides : NoAttr K (He.ga K "Fault") "s1_hides"
  na_Fault_s1_kind : NoAttr K (He.ga K "Fault") "s1_kind"
  na_Fault_s1_label : NoAttr K (He.ga K "Fault") "s1_label"
  na_Fault_s1_number : NoAttr K (He.ga K "Fault") "s1_number"
  pr_Chain_repeat : PropOf K (He.ga K "Chain") "repeat" (pad K (He.ga K "Chain") "repeat") (gad K (pad K (He.ga K "Chain") "repeat"))
  pr_Chain_ways : PropOf K (He.ga K "Chain") "ways" (pad K (He.ga K "Chain") "ways") (gad K (pad K (He.ga K "Chain") "ways"))
  pr_Fault_cause : PropOf K (He.ga K "Fault") "cause" (pad K (He.ga K "Fault") "cause") (gad K (pad K (He.ga K "Fault") "cause"))
  pr_Fault_context : PropOf K (He.ga K "Fault") "context" (pad K (He.ga K "Fault") "context") (gad K (pad K (He.ga K "Fault") "context"))
  pr_Fault_hides : PropOf K (He.ga K "Fault") "hides" (pad K (He.ga K "Fault") "hides") (gad K (pad K (He.ga K "Fault") "hides"))
  d_need_fault : FnAt K (He.ga K "need_fault") "need_fault" "need_fault" (top 16)
  d_Fault_cause : FnAt K (gad K (pad K (He.ga K "Fault") "cause")) "cause" "Fault.cause" (inClass (top 15) 5)
  d_Fault_context : FnAt K (gad K (pad K (He.ga K "Fault") "context")) "context" "Fault.context" (inClass (top 15) 4)
  d_Fault_hides : FnAt K (gad K (pad K (He.ga K "Fault") "hides")) "hides" "Fault.hides" (inClass (top 15) 6)
  d_next_link : FnAt K (He.ga K "next_link") "next_link" "next_link" (top 21)
  d_chain_parts : FnAt K (He.ga K "chain_parts") "chain_parts" "chain_parts" (top 22)
  d_Chain___init__ : FnAt K (He.ma K (He.ga K "Chain") "__init__") "__init__" "Chain.__init__" (inClass (top 23) 0)
  d_Chain___len__ : FnAt K (He.ma K (He.ga K "Chain") "__len__") "__len__" "Chain.__len__" (inClass (top 23) 3)
  d_Chain_repeat : FnAt K (gad K (pad K (He.ga K "Chain") "repeat")) "repeat" "Chain.repeat" (inClass (top 23) 2)
  d_Chain_ways : FnAt K (gad K (pad K (He.ga K "Chain") "ways")) "ways" "Chain.ways" (inClass (top 23) 1)
  d__law_begun : FnAt K (He.ga K "_law_begun") "_law_begun" "_law_begun" (top 27)
  d_is_letter : FnAt K (He.ga K "is_letter") "is_letter" "is_letter" (top 11)
  d_is_kind : FnAt K (He.ga K "is_kind") "is_kind" "is_kind" (top 12)
  d_is_label : FnAt K (He.ga K "is_label") "is_label" "is_label" (top 13)
  d_Fault___init__ : FnAt K (He.ma K (He.ga K "Fault") "__init__") "__init__" "Fault.__init__" (inClass (top 15) 0)
  d__law_next : FnAt K (He.ga K "_law_next") "_law_next" "_law_next" (top 28)
  d_need_fault_or_none : FnAt K (He.ga K "need_fault_or_none") "need_fault_or_none" "need_fault_or_none" (top 17)
  d_raise_under : FnAt K (He.ga K "raise_under") "raise_under" "raise_under" (top 18)
  d__law_handled : FnAt K (He.ga K "_law_handled") "_law_handled" "_law_handled" (top 29)
  d_Chain___getitem__ : FnAt K (He.ma K (He.ga K "Chain") "__getitem__") "__getitem__" "Chain.__getitem__" (inClass (top 23) 5)
  d__law_listed : FnAt K (He.ga K "_law_listed") "_law_listed" "_law_listed" (top 30)
  d__law_meeting_right : FnAt K (He.ga K "_law_meeting_right") "_law_meeting_right" "_law_meeting_right" (top 32)
  d_contexts : FnAt K (He.ga K "contexts") "contexts" "contexts" (top 25)
  d_links : FnAt K (He.ga K "links") "links" "links" (top 24)
  d__law_plain_right : FnAt K (He.ga K "_law_plain_right") "_law_plain_right" "_law_plain_right" (top 31)
  d_with_cause : FnAt K (He.ga K "with_cause") "with_cause" "with_cause" (top 19)
  d_law : FnAt K (He.ga K "law") "law" "law" (top 33)
def facts0 : List Fc := [.fa (.glo "need_fault"), .fa (.glo "next_link"), .fa (.glo "chain_parts"), .fa (.glo "_law_begun"), .fa (.glo "is_letter"), .fa (.glo "is_kind"), .fa (.glo "is_label"), .fa (.glo "_law_next"), .fa (.glo "need_fault_or_none"), .fa (.glo "raise_under"), .fa (.glo "_law_handled"), .fa (.glo "_law_listed"), .fa (.glo "_law_meeting_right"), .fa (.glo "contexts"), .fa (.glo "links"), .fa (.glo "_law_plain_right"), .fa (.glo "with_cause"), .fa (.glo "law"), .fa (.int "MOST_LABEL" 40), .fa (.int "MOST_LETTERS" 12), .fa (.free "all"), .fa (.free "bool"), .fa (.free "enumerate"), .fa (.free "int"), .fa (.free "isinstance"), .fa (.free "len"), .fa (.free "list"), .fa (.free "max"), .fa (.free "min"), .fa (.free "ord")]
def facts1 : List Fc := [.fa (.free "range"), .fa (.free "str"), .fa (.free "tuple"), .fa (.free "zip"), .fa (.cls "Chain"), .fa (.cls "Fault"), .idc "Fault", .chk (nonB "Fault"), .fa (.cls "Fault"), .ins "Fault", .kitC "Fault" "Fault" true, .kit "NoneType" "Fault" false, .kit "int" "Fault" false, .kit "str" "Fault" false, .kit "bool" "Fault" false, .kit "list" "Fault" false, .kit "tuple" "Fault" false, .kit "dict" "Fault" false, .fa (.glo "Chain"), .fa (.glo "Fault"), .fa (.meth "Chain" "__getitem__"), .fa (.meth "Chain" "__len__"), .fa (.mkr "Chain"), .fa (.mkr "Fault"), .fa (.noat "Chain" "s1_faults"), .fa (.noat "Chain" "s1_repeat"), .fa (.noat "Chain" "s1_ways"), .fa (.noat "Fault" "s1_cause"), .fa (.noat "Fault" "s1_context"), .fa (.noat "Fault" "s1_hides")]
def facts2 : List Fc := [.fa (.noat "Fault" "s1_kind"), .fa (.noat "Fault" "s1_label"), .fa (.noat "Fault" "s1_number"), .prop "Chain" "repeat", .prop "Chain" "ways", .prop "Fault" "cause", .prop "Fault" "context", .prop "Fault" "hides"]
def facts : List Fc := facts0 ++ facts1 ++ facts2
def fns : List DefE := [⟨fun K => He.ga K "need_fault", "need_fault", "need_fault", (top 16)⟩,
  ⟨fun K => gad K (pad K (He.ga K "Fault") "cause"), "cause", "Fault.cause", (inClass (top 15) 5)⟩,
  ⟨fun K => gad K (pad K (He.ga K "Fault") "context"), "context", "Fault.context", (inClass (top 15) 4)⟩,
  ⟨fun K => gad K (pad K (He.ga K "Fault") "hides"), "hides", "Fault.hides", (inClass (top 15) 6)⟩,
  ⟨fun K => He.ga K "next_link", "next_link", "next_link", (top 21)⟩,
  ⟨fun K => He.ga K "chain_parts", "chain_parts", "chain_parts", (top 22)⟩,
  ⟨fun K => He.ma K (He.ga K "Chain") "__init__", "__init__", "Chain.__init__", (inClass (top 23) 0)⟩,
  ⟨fun K => He.ma K (He.ga K "Chain") "__len__", "__len__", "Chain.__len__", (inClass (top 23) 3)⟩,
  ⟨fun K => gad K (pad K (He.ga K "Chain") "repeat"), "repeat", "Chain.repeat", (inClass (top 23) 2)⟩,
  ⟨fun K => gad K (pad K (He.ga K "Chain") "ways"), "ways", "Chain.ways", (inClass (top 23) 1)⟩,
  ⟨fun K => He.ga K "_law_begun", "_law_begun", "_law_begun", (top 27)⟩,
  ⟨fun K => He.ga K "is_letter", "is_letter", "is_letter", (top 11)⟩,
  ⟨fun K => He.ga K "is_kind", "is_kind", "is_kind", (top 12)⟩,
  ⟨fun K => He.ga K "is_label", "is_label", "is_label", (top 13)⟩,
  ⟨fun K => He.ma K (He.ga K "Fault") "__init__", "__init__", "Fault.__init__", (inClass (top 15) 0)⟩,
  ⟨fun K => He.ga K "_law_next", "_law_next", "_law_next", (top 28)⟩,
  ⟨fun K => He.ga K "need_fault_or_none", "need_fault_or_none", "need_fault_or_none", (top 17)⟩,
  ⟨fun K => He.ga K "raise_under", "raise_under", "raise_under", (top 18)⟩,
  ⟨fun K => He.ga K "_law_handled", "_law_handled", "_law_handled", (top 29)⟩,
  ⟨fun K => He.ma K (He.ga K "Chain") "__getitem__", "__getitem__", "Chain.__getitem__", (inClass (top 23) 5)⟩,
  ⟨fun K => He.ga K "_law_listed", "_law_listed", "_law_listed", (top 30)⟩,
  ⟨fun K => He.ga K "_law_meeting_right", "_law_meeting_right", "_law_meeting_right", (top 32)⟩,
  ⟨fun K => He.ga K "contexts", "contexts", "contexts", (top 25)⟩,
  ⟨fun K => He.ga K "links", "links", "links", (top 24)⟩,
  ⟨fun K => He.ga K "_law_plain_right", "_law_plain_right", "_law_plain_right", (top 31)⟩,
  ⟨fun K => He.ga K "with_cause", "with_cause", "with_cause", (top 19)⟩,
  ⟨fun K => He.ga K "law", "law", "law", (top 33)⟩]
def tabs : List TabW := []
theorem gs_of {w : World} {K : PySem.W.Frag} {mg : Str → Option Value} {h : PySem.Heap} (X : K.In h) (Gn : h.Ns mainGlobals mg) (c0 : SaysT facts fns tabs w K) (c : SaysC facts fns K) : Gs w K mg where
  m_need_fault := He.glo_ok X Gn (c.fa 0)
  m_next_link := He.glo_ok X Gn (c.fa 1)
  m_chain_parts := He.glo_ok X Gn (c.fa 2)
  m__law_begun := He.glo_ok X Gn (c.fa 3)
  m_is_letter := He.glo_ok X Gn (c.fa 4)
  m_is_kind := He.glo_ok X Gn (c.fa 5)
  m_is_label := He.glo_ok X Gn (c.fa 6)
  m__law_next := He.glo_ok X Gn (c.fa 7)
  m_need_fault_or_none := He.glo_ok X Gn (c.fa 8)
  m_raise_under := He.glo_ok X Gn (c.fa 9)
  m__law_handled := He.glo_ok X Gn (c.fa 10)
  m__law_listed := He.glo_ok X Gn (c.fa 11)
  m__law_meeting_right := He.glo_ok X Gn (c.fa 12)
  m_contexts := He.glo_ok X Gn (c.fa 13)
  m_links := He.glo_ok X Gn (c.fa 14)
  m__law_plain_right := He.glo_ok X Gn (c.fa 15)
  m_with_cause := He.glo_ok X Gn (c.fa 16)
  m_law := He.glo_ok X Gn (c.fa 17)
  g_MOST_LABEL := He.int_ok X Gn (c.fa 18)
  g_MOST_LETTERS := He.int_ok X Gn (c.fa 19)
  n_all := He.free_ok X Gn (c.fa 20)
  n_bool := He.free_ok X Gn (c.fa 21)
  n_enumerate := He.free_ok X Gn (c.fa 22)
  n_int := He.free_ok X Gn (c.fa 23)
  n_isinstance := He.free_ok X Gn (c.fa 24)
  n_len := He.free_ok X Gn (c.fa 25)
  n_list := He.free_ok X Gn (c.fa 26)
  n_max := He.free_ok X Gn (c.fa 27)
  n_min := He.free_ok X Gn (c.fa 28)
  n_ord := He.free_ok X Gn (c.fa 29)
  n_range := He.free_ok X Gn (c.fa 30)
  n_str := He.free_ok X Gn (c.fa 31)
  n_tuple := He.free_ok X Gn (c.fa 32)
  n_zip := He.free_ok X Gn (c.fa 33)
  cl_Chain := He.cls_ok (c.fa 34)
  cl_Fault := He.cls_ok (c.fa 35)
  id_Fault := idc_ok (c.fact 36)
  nn_Fault := nonB_ok (c.fact 37)
  is_Fault := isA_of rfl (He.cls_ok (c.fa 38)) (c.fact 39) (c.fact 40) (c.fact 41) (c.fact 42) (c.fact 43) (c.fact 44) (c.fact 45) (c.fact 46) (c.fact 47)
  m_Chain := He.glo_ok X Gn (c.fa 48)
  m_Fault := He.glo_ok X Gn (c.fa 49)
  me_Chain___getitem__ := He.meth_ok (c.fa 50)
  me_Chain___len__ := He.meth_ok (c.fa 51)
  mk_Chain := He.mkr_ok (c.fa 52)
  mk_Fault := He.mkr_ok (c.fa 53)
  na_Chain_s1_faults := He.noat_ok (c.fa 54)
  na_Chain_s1_repeat := He.noat_ok (c.fa 55)
  na_Chain_s1_ways := He.noat_ok (c.fa 56)
  na_Fault_s1_cause := He.noat_ok (c.fa 57)
  na_Fault_s1_context := He.noat_ok (c.fa 58)
  na_Fault_s1_hides := He.noat_ok (c.fa 59)
  na_Fault_s1_kind := He.noat_ok (c.fa 60)
  na_Fault_s1_label := He.noat_ok (c.fa 61)
  na_Fault_s1_number := He.noat_ok (c.fa 62)
  pr_Chain_repeat := prop_ok (c.fact 63)
  pr_Chain_ways := prop_ok (c.fact 64)
  pr_Fault_cause := prop_ok (c.fact 65)
  pr_Fault_context := prop_ok (c.fact 66)
  pr_Fault_hides := prop_ok (c.fact 67)
  d_need_fault := c.def_ 0
  d_Fault_cause := c.def_ 1
  d_Fault_context := c.def_ 2
  d_Fault_hides := c.def_ 3
  d_next_link := c.def_ 4
  d_chain_parts := c.def_ 5
  d_Chain___init__ := c.def_ 6
  d_Chain___len__ := c.def_ 7
  d_Chain_repeat := c.def_ 8
  d_Chain_ways := c.def_ 9
  d__law_begun := c.def_ 10
  d_is_letter := c.def_ 11
  d_is_kind := c.def_ 12
  d_is_label := c.def_ 13
  d_Fault___init__ := c.def_ 14
  d__law_next := c.def_ 15
  d_need_fault_or_none := c.def_ 16
  d_raise_under := c.def_ 17
  d__law_handled := c.def_ 18
  d_Chain___getitem__ := c.def_ 19
  d__law_listed := c.def_ 20
  d__law_meeting_right := c.def_ 21
  d_contexts := c.def_ 22
  d_links := c.def_ 23
  d__law_plain_right := c.def_ 24
  d_with_cause := c.def_ 25
  d_law := c.def_ 26
theorem ic {w : World} {K : PySem.W.Frag} {mg : Str → Option Value} (G : Gs w K mg) : ∀ c, idF c = true → IdC K ((nm K).ca c) := fun c e => by
  obtain rfl := of_decide_eq_true e
  exact G.id_Fault
theorem icN {w : World} {K : PySem.W.Frag} {mg : Str → Option Value} (G : Gs w K mg) : ∀ c, idF c = true → IdN K ((nm K).ca c) := fun c e => by
  obtain rfl := of_decide_eq_true e
  exact ⟨G.id_Fault, G.nn_Fault⟩
theorem bd_Chain___getitem___2 : BdQ "__getitem__" "Chain.__getitem__" (inClass (top 23) 5) ["self", "at"] 2 [] [(false, 0), (false, 1)] := fun _ _ _ _ _ _ us ws h1 h2 => match us, ws, h1, h2 with | [_, _], [], _, _ => rfl
theorem bd_Chain___init___2 : BdQ "__init__" "Chain.__init__" (inClass (top 23) 0) ["self", "fault"] 2 [] [(false, 0), (false, 1)] := fun _ _ _ _ _ _ us ws h1 h2 => match us, ws, h1, h2 with | [_, _], [], _, _ => rfl
theorem bd_Chain___len___1 : BdQ "__len__" "Chain.__len__" (inClass (top 23) 3) ["self"] 1 [] [(false, 0)] := fun _ _ _ _ _ _ us ws h1 h2 => match us, ws, h1, h2 with | [_], [], _, _ => rfl
theorem bd_Fault___init___4 : BdQ "__init__" "Fault.__init__" (inClass (top 15) 0) ["self", "kind", "label", "number"] 4 [] [(false, 0), (false, 1), (false, 2), (false, 3)] := fun _ _ _ _ _ _ us ws h1 h2 => match us, ws, h1, h2 with | [_, _, _, _], [], _, _ => rfl
theorem bd__law_begun_1 : BdQ "_law_begun" "_law_begun" (top 27) ["_law_script"] 1 [] [(false, 0)] := fun _ _ _ _ _ _ us ws h1 h2 => match us, ws, h1, h2 with | [_], [], _, _ => rfl
theorem bd__law_handled_3 : BdQ "_law_handled" "_law_handled" (top 29) ["_law_draw", "_law_many", "_law_again"] 3 [] [(false, 0), (false, 1), (false, 2)] := fun _ _ _ _ _ _ us ws h1 h2 => match us, ws, h1, h2 with | [_, _, _], [], _, _ => rfl
theorem bd__law_listed_1 : BdQ "_law_listed" "_law_listed" (top 30) ["_law_chain"] 1 [] [(false, 0)] := fun _ _ _ _ _ _ us ws h1 h2 => match us, ws, h1, h2 with | [_], [], _, _ => rfl
theorem bd__law_meeting_right_1 : BdQ "_law_meeting_right" "_law_meeting_right" (top 32) ["_law_pool"] 1 [] [(false, 0)] := fun _ _ _ _ _ _ us ws h1 h2 => match us, ws, h1, h2 with | [_], [], _, _ => rfl
theorem bd__law_next_2 : BdQ "_law_next" "_law_next" (top 28) ["_law_draw", "_law_below"] 2 [] [(false, 0), (false, 1)] := fun _ _ _ _ _ _ us ws h1 h2 => match us, ws, h1, h2 with | [_, _], [], _, _ => rfl
theorem bd__law_plain_right_1 : BdQ "_law_plain_right" "_law_plain_right" (top 31) ["_law_pool"] 1 [] [(false, 0)] := fun _ _ _ _ _ _ us ws h1 h2 => match us, ws, h1, h2 with | [_], [], _, _ => rfl
theorem bd_chain_parts_1 : BdQ "chain_parts" "chain_parts" (top 22) ["fault"] 1 [] [(false, 0)] := fun _ _ _ _ _ _ us ws h1 h2 => match us, ws, h1, h2 with | [_], [], _, _ => rfl
theorem bd_contexts_0_fault : BdQ "contexts" "contexts" (top 25) ["fault"] 0 ["fault"] [(true, 0)] := fun _ _ _ _ _ _ us ws h1 h2 => match us, ws, h1, h2 with | [], [_], _, _ => rfl
theorem bd_contexts_1 : BdQ "contexts" "contexts" (top 25) ["fault"] 1 [] [(false, 0)] := fun _ _ _ _ _ _ us ws h1 h2 => match us, ws, h1, h2 with | [_], [], _, _ => rfl
theorem bd_is_kind_1 : BdQ "is_kind" "is_kind" (top 12) ["value"] 1 [] [(false, 0)] := fun _ _ _ _ _ _ us ws h1 h2 => match us, ws, h1, h2 with | [_], [], _, _ => rfl
theorem bd_is_label_1 : BdQ "is_label" "is_label" (top 13) ["value"] 1 [] [(false, 0)] := fun _ _ _ _ _ _ us ws h1 h2 => match us, ws, h1, h2 with | [_], [], _, _ => rfl
theorem bd_is_letter_1 : BdQ "is_letter" "is_letter" (top 11) ["character"] 1 [] [(false, 0)] := fun _ _ _ _ _ _ us ws h1 h2 => match us, ws, h1, h2 with | [_], [], _, _ => rfl
theorem bd_links_0_fault : BdQ "links" "links" (top 24) ["fault"] 0 ["fault"] [(true, 0)] := fun _ _ _ _ _ _ us ws h1 h2 => match us, ws, h1, h2 with | [], [_], _, _ => rfl
theorem bd_need_fault_1 : BdQ "need_fault" "need_fault" (top 16) ["value"] 1 [] [(false, 0)] := fun _ _ _ _ _ _ us ws h1 h2 => match us, ws, h1, h2 with | [_], [], _, _ => rfl
theorem bd_need_fault_or_none_1 : BdQ "need_fault_or_none" "need_fault_or_none" (top 17) ["value"] 1 [] [(false, 0)] := fun _ _ _ _ _ _ us ws h1 h2 => match us, ws, h1, h2 with | [_], [], _, _ => rfl
theorem bd_next_link_1 : BdQ "next_link" "next_link" (top 21) ["fault"] 1 [] [(false, 0)] := fun _ _ _ _ _ _ us ws h1 h2 => match us, ws, h1, h2 with | [_], [], _, _ => rfl
theorem bd_raise_under_2 : BdQ "raise_under" "raise_under" (top 18) ["fault", "handled"] 2 [] [(false, 0), (false, 1)] := fun _ _ _ _ _ _ us ws h1 h2 => match us, ws, h1, h2 with | [_, _], [], _, _ => rfl
theorem bd_with_cause_2 : BdQ "with_cause" "with_cause" (top 19) ["fault", "source"] 2 [] [(false, 0), (false, 1)] := fun _ _ _ _ _ _ us ws h1 h2 => match us, ws, h1, h2 with | [_, _], [], _, _ => rfl
section
variable {P : Program} {w : World} {K : PySem.W.Frag} {mg : Str → Option Value} {base : PySem.Heap}
/-! need_fault -/
def s_need_fault : SS := sIf (bNot (bTru (eIsi (isiA 0) (eVar 0)))) (sBad) (sNil)
@[irreducible] def F_need_fault : List W → Ev.Heap → R := fnOf 1 1 s_need_fault
theorem sc_need_fault : FnScope ["value"] ["value"] (defScope (top 16)) := ⟨rfl, rfl, rfl, by decide +kernel, rfl, by decide +kernel, by decide +kernel⟩
theorem b_need_fault (G : Gs w K mg)  (f : Addr) : BodyOk P w K mg base (nm K) ["value"] "need_fault" (defScope (top 16)) (defBody (top 16)) f 0 s_need_fault := by
  intro cdv A outer st H E hr hg
  have hu := hu_of hr
  have hU := hr.units
  have hV : _ + 65 < cLine := Nat.lt_of_le_of_lt (Nat.add_le_add_left (by omega : 65 ≤ 16 * 0 + 200) _) hr.un
  have tk := takes_of (X := cxOf (L2.CX P w) P w K mg base ["value"] "need_fault" (defScope (top 16)) f cdv A outer st H E) (E := E) rfl rfl rfl rfl
  have nd := (sc_need_fault).nd
  unfold s_need_fault
  exact s_one (s_if (t_not (t_tru (r_isiC G.is_Fault G.m_Fault G.n_isinstance (rv 0)))) (s_one (s_bad)) (s_nil))
theorem D_need_fault (G : Gs w K mg) : MdOk P w K mg base (nm K) 1 (He.ga K "need_fault") "need_fault" "need_fault" (top 16) ["value"] F_need_fault := by
  unfold F_need_fault
  exact .mk' G.d_need_fault sc_need_fault (b_need_fault G  _)
/-! Fault.cause -/
def s_Fault_cause : SS := sRet (eAttr (atF [0]) 4 (eVar 0))
@[irreducible] def F_Fault_cause : List W → Ev.Heap → R := fnOf 1 1 s_Fault_cause
theorem sc_Fault_cause : FnScope ["self"] ["self"] (defScope (inClass (top 15) 5)) := ⟨rfl, rfl, rfl, by decide +kernel, rfl, by decide +kernel, by decide +kernel⟩
theorem b_Fault_cause (G : Gs w K mg)  (f : Addr) : BodyOk0 P w K mg base (nm K) ["self"] "Fault.cause" (defScope (inClass (top 15) 5)) (defBody (inClass (top 15) 5)) f 0 s_Fault_cause := by
  intro cdv A outer st H E hr
  have hu := hu_of hr
  have hU := hr.units
  have hV : _ + 65 < cLine := Nat.lt_of_le_of_lt (Nat.add_le_add_left (by omega : 65 ≤ 16 * 0 + 200) _) hr.un
  have tk := takes_of (X := cxOf (L2.CX P w) P w K mg base ["self"] "Fault.cause" (defScope (inClass (top 15) 5)) f cdv A outer st H E) (E := E) rfl rfl rfl rfl
  have nd := (sc_Fault_cause).nd
  unfold s_Fault_cause
  exact s_one (s_ret (r_attr (at_fld1 G.cl_Fault G.na_Fault_s1_cause) rfl (rv 0) rfl))
theorem D_Fault_cause (G : Gs w K mg) : GtOk P w K mg base (nm K) 1 (gad K (pad K (He.ga K "Fault") "cause")) F_Fault_cause := by
  unfold F_Fault_cause
  exact .mk' G.d_Fault_cause sc_Fault_cause (b_Fault_cause G  _) (fun _ _ _ _ _ _ us ws h1 h2 => match us, ws, h1, h2 with | [_], [], _, _ => rfl)
/-! Fault.context -/
def s_Fault_context : SS := sRet (eAttr (atF [0]) 3 (eVar 0))
@[irreducible] def F_Fault_context : List W → Ev.Heap → R := fnOf 1 1 s_Fault_context
theorem sc_Fault_context : FnScope ["self"] ["self"] (defScope (inClass (top 15) 4)) := ⟨rfl, rfl, rfl, by decide +kernel, rfl, by decide +kernel, by decide +kernel⟩
theorem b_Fault_context (G : Gs w K mg)  (f : Addr) : BodyOk0 P w K mg base (nm K) ["self"] "Fault.context" (defScope (inClass (top 15) 4)) (defBody (inClass (top 15) 4)) f 0 s_Fault_context := by
  intro cdv A outer st H E hr
  have hu := hu_of hr
  have hU := hr.units
  have hV : _ + 65 < cLine := Nat.lt_of_le_of_lt (Nat.add_le_add_left (by omega : 65 ≤ 16 * 0 + 200) _) hr.un
  have tk := takes_of (X := cxOf (L2.CX P w) P w K mg base ["self"] "Fault.context" (defScope (inClass (top 15) 4)) f cdv A outer st H E) (E := E) rfl rfl rfl rfl
  have nd := (sc_Fault_context).nd
  unfold s_Fault_context
  exact s_one (s_ret (r_attr (at_fld1 G.cl_Fault G.na_Fault_s1_context) rfl (rv 0) rfl))
theorem D_Fault_context (G : Gs w K mg) : GtOk P w K mg base (nm K) 1 (gad K (pad K (He.ga K "Fault") "context")) F_Fault_context := by
  unfold F_Fault_context
  exact .mk' G.d_Fault_context sc_Fault_context (b_Fault_context G  _) (fun _ _ _ _ _ _ us ws h1 h2 => match us, ws, h1, h2 with | [_], [], _, _ => rfl)
/-! Fault.hides -/
def s_Fault_hides : SS := sRet (eAttr (atF [0]) 5 (eVar 0))
@[irreducible] def F_Fault_hides : List W → Ev.Heap → R := fnOf 1 1 s_Fault_hides
theorem sc_Fault_hides : FnScope ["self"] ["self"] (defScope (inClass (top 15) 6)) := ⟨rfl, rfl, rfl, by decide +kernel, rfl, by decide +kernel, by decide +kernel⟩
theorem b_Fault_hides (G : Gs w K mg)  (f : Addr) : BodyOk0 P w K mg base (nm K) ["self"] "Fault.hides" (defScope (inClass (top 15) 6)) (defBody (inClass (top 15) 6)) f 0 s_Fault_hides := by
  intro cdv A outer st H E hr
  have hu := hu_of hr
  have hU := hr.units
  have hV : _ + 65 < cLine := Nat.lt_of_le_of_lt (Nat.add_le_add_left (by omega : 65 ≤ 16 * 0 + 200) _) hr.un
  have tk := takes_of (X := cxOf (L2.CX P w) P w K mg base ["self"] "Fault.hides" (defScope (inClass (top 15) 6)) f cdv A outer st H E) (E := E) rfl rfl rfl rfl
  have nd := (sc_Fault_hides).nd
  unfold s_Fault_hides
  exact s_one (s_ret (r_attr (at_fld1 G.cl_Fault G.na_Fault_s1_hides) rfl (rv 0) rfl))
theorem D_Fault_hides (G : Gs w K mg) : GtOk P w K mg base (nm K) 1 (gad K (pad K (He.ga K "Fault") "hides")) F_Fault_hides := by
  unfold F_Fault_hides
  exact .mk' G.d_Fault_hides sc_Fault_hides (b_Fault_hides G  _) (fun _ _ _ _ _ _ us ws h1 h2 => match us, ws, h1, h2 with | [_], [], _, _ => rfl)
/-! next_link -/
def s_next_link : SS := sSeq (sIf (bVal (eBin wIsnt (eAttr (atP 0 F_Fault_cause) 10 (eVar 0)) (eW .non))) (sRet (eTup (aCons (eW (.str "cause")) (aCons (eAttr (atP 0 F_Fault_cause) 10 (eVar 0)) (aNil))))) (sNil)) (sSeq (sIf (bAnd (bVal (eBin wIsnt (eAttr (atP 0 F_Fault_context) 9 (eVar 0)) (eW .non))) (bNot (bTru (eAttr (atP 0 F_Fault_hides) 11 (eVar 0))))) (sRet (eTup (aCons (eW (.str "context")) (aCons (eAttr (atP 0 F_Fault_context) 9 (eVar 0)) (aNil))))) (sNil)) (sRet (eW .non)))
@[irreducible] def F_next_link : List W → Ev.Heap → R := fnOf 1 1 s_next_link
theorem sc_next_link : FnScope ["fault"] ["fault"] (defScope (top 21)) := ⟨rfl, rfl, rfl, by decide +kernel, rfl, by decide +kernel, by decide +kernel⟩
theorem b_next_link (G : Gs w K mg) (D_Fault_cause : GtOk P w K mg base (nm K) 1 (gad K (pad K (He.ga K "Fault") "cause")) F_Fault_cause) (D_Fault_context : GtOk P w K mg base (nm K) 1 (gad K (pad K (He.ga K "Fault") "context")) F_Fault_context) (D_Fault_hides : GtOk P w K mg base (nm K) 1 (gad K (pad K (He.ga K "Fault") "hides")) F_Fault_hides) (f : Addr) : BodyOk P w K mg base (nm K) ["fault"] "next_link" (defScope (top 21)) (defBody (top 21)) f 2 s_next_link := by
  intro cdv A outer st H E hr hg
  have hu := hu_of hr
  have hU := hr.units
  have hV : _ + 65 < cLine := Nat.lt_of_le_of_lt (Nat.add_le_add_left (by omega : 65 ≤ 16 * 2 + 200) _) hr.un
  have tk := takes_of (X := cxOf (L2.CX P w) P w K mg base ["fault"] "next_link" (defScope (top 21)) f cdv A outer st H E) (E := E) rfl rfl rfl rfl
  have nd := (sc_next_link).nd
  have R_Fault_cause : 2 ≤ 2 := by decide
  have R_Fault_context : 2 ≤ 2 := by decide
  have R_Fault_hides : 2 ≤ 2 := by decide
  unfold s_next_link
  exact s_cons (s_if (t_cmp (ok_isnt) (r_attr (at_prop G.cl_Fault G.pr_Fault_cause D_Fault_cause (hr.mono R_Fault_cause)) rfl (rv 0) rfl) (r_non) (nomark _)) (s_one (s_ret (r_tup (ra_cons (r_str) (ra_cons (r_attr (at_prop G.cl_Fault G.pr_Fault_cause D_Fault_cause (hr.mono R_Fault_cause)) rfl (rv 0) rfl) (ra_nil)))))) (s_nil))
    (s_cons (s_if (t_w (w_and (t_cmp (ok_isnt) (r_attr (at_prop G.cl_Fault G.pr_Fault_context D_Fault_context (hr.mono R_Fault_context)) rfl (rv 0) rfl) (r_non) (nomark _)) (w_and1 (t_not (t_tru (r_attr (at_prop G.cl_Fault G.pr_Fault_hides D_Fault_hides (hr.mono R_Fault_hides)) rfl (rv 0) rfl)))))) (s_one (s_ret (r_tup (ra_cons (r_str) (ra_cons (r_attr (at_prop G.cl_Fault G.pr_Fault_context D_Fault_context (hr.mono R_Fault_context)) rfl (rv 0) rfl) (ra_nil)))))) (s_nil))
    (s_one (s_ret (r_non))))
theorem D_next_link (G : Gs w K mg) : MdOk P w K mg base (nm K) 3 (He.ga K "next_link") "next_link" "next_link" (top 21) ["fault"] F_next_link := by
  unfold F_next_link
  exact .mk' G.d_next_link sc_next_link (b_next_link G (D_Fault_cause G) (D_Fault_context G) (D_Fault_hides G) _)
/-! chain_parts -/
def s_chain_parts_1 : SS := sAsg (eVar 3) (gTp [gNm 4, gNm 5])
def s_chain_parts_2 : SS := sIf (bVal (eBin (wInI idF) (eVar 5) (eVar 1))) (sRet (eTup (aCons (eB bTuple (aCons (eVar 1) (aNil))) (aCons (eB bTuple (aCons (eVar 2) (aNil))) (aCons (eVar 5) (aNil)))))) (sNil)
def s_chain_parts_3 : SS := sExpr (eBm "list" mAppend (eVar 1) (aCons (eVar 5) (aNil)))
def s_chain_parts_4 : SS := sExpr (eBm "list" mAppend (eVar 2) (aCons (eVar 4) (aNil)))
def s_chain_parts_5 : SS := sAsg (eCall (fun xs ys h => F_next_link (pick [(false, 0)] xs ys) h) 1 0 (aCons (eVar 5) (aNil)) (aNil)) (gNm 3)
def s_chain_parts_6 : SS := sExpr (eCall (fun xs ys h => F_need_fault (pick [(false, 0)] xs ys) h) 1 0 (aCons (eVar 0) (aNil)) (aNil))
def s_chain_parts_7 : SS := sPar3 1 2 3 (aCons (eLst (aCons (eVar 0) (aNil))) (aCons (eLst (aNil)) (aCons (eCall (fun xs ys h => F_next_link (pick [(false, 0)] xs ys) h) 1 0 (aCons (eVar 0) (aNil)) (aNil)) (aNil))))
def s_chain_parts_8 : SS := whileL (bVal (eBin wIsnt (eVar 3) (eW .non))) (sSeq (s_chain_parts_1) (sSeq (s_chain_parts_2) (sSeq (s_chain_parts_3) (sSeq (s_chain_parts_4) (s_chain_parts_5))))) 100000
def s_chain_parts_9 : SS := sRet (eTup (aCons (eB bTuple (aCons (eVar 1) (aNil))) (aCons (eB bTuple (aCons (eVar 2) (aNil))) (aCons (eW .non) (aNil)))))
def s_chain_parts : SS := sSeq (s_chain_parts_6) (sSeq (s_chain_parts_7) (sSeq (s_chain_parts_8) (s_chain_parts_9)))
@[irreducible] def F_chain_parts : List W → Ev.Heap → R := fnOf 1 6 s_chain_parts
theorem sc_chain_parts : FnScope ["fault", "found", "ways", "link", "way", "other"] ["fault"] (defScope (top 22)) := ⟨rfl, rfl, rfl, by decide +kernel, rfl, by decide +kernel, by decide +kernel⟩
theorem b_chain_parts (G : Gs w K mg) (D_need_fault : MdOk P w K mg base (nm K) 1 (He.ga K "need_fault") "need_fault" "need_fault" (top 16) ["value"] F_need_fault) (D_next_link : MdOk P w K mg base (nm K) 3 (He.ga K "next_link") "next_link" "next_link" (top 21) ["fault"] F_next_link) (f : Addr) : BodyOk P w K mg base (nm K) ["fault", "found", "ways", "link", "way", "other"] "chain_parts" (defScope (top 22)) (defBody (top 22)) f 3 s_chain_parts := by
  intro cdv A outer st H E hr hg
  have hu := hu_of hr
  have hU := hr.units
  have hV : _ + 65 < cLine := Nat.lt_of_le_of_lt (Nat.add_le_add_left (by omega : 65 ≤ 16 * 3 + 200) _) hr.un
  have tk := takes_of (X := cxOf (L2.CX P w) P w K mg base ["fault", "found", "ways", "link", "way", "other"] "chain_parts" (defScope (top 22)) f cdv A outer st H E) (E := E) rfl rfl rfl rfl
  have nd := (sc_chain_parts).nd
  have R_need_fault : 1 ≤ 3 := by decide
  have R_next_link : 3 ≤ 3 := by decide
  unfold s_chain_parts
  exact s_cons (s_expr (r_callf (ks := []) G.m_need_fault D_need_fault bd_need_fault_1 (hr.mono R_need_fault) hg tk (ra_cons (rv 0) (ra_nil)) (rk_nil)))
    (s_cons (s_par3 rfl nd rfl rfl rfl (by decide) (by decide) (by decide) rfl rfl rfl (ra_cons (r_lst (ra_cons (rv 0) (ra_nil))) (ra_cons (r_lst (ra_nil)) (ra_cons (r_callf (ks := []) G.m_next_link D_next_link bd_next_link_1 (hr.mono R_next_link) hg tk (ra_cons (rv 0) (ra_nil)) (rk_nil)) (ra_nil)))) rfl)
    (s_cons (s_while 100000 (passes_of rfl) (t_cmp (ok_isnt) (rv 3) (r_non) (nomark _)) (s_cons (s_asg (rv 3) (g_tup rfl (gs_cons (g_name nd rfl (Or.inl rfl)) (gs_cons (g_name nd rfl (Or.inl rfl)) (gs_nil) (gnm_ok _)) (gnm_ok _)) ⟨(gnm_ok _), ⟨(gnm_ok _), True.intro⟩⟩ rfl) (gtp_ok ⟨(gnm_ok _), ⟨(gnm_ok _), True.intro⟩⟩))
    (s_cons (s_if (t_cmp (ok_inI (ic G) hV) (rv 5) (rv 1) (by rfl)) (s_one (s_ret (r_tup (ra_cons (r_callTy (okb_tuple) rfl G.n_tuple bt_tuple (ra_cons (rv 1) (ra_nil))) (ra_cons (r_callTy (okb_tuple) rfl G.n_tuple bt_tuple (ra_cons (rv 2) (ra_nil))) (ra_cons (rv 5) (ra_nil))))))) (s_nil))
    (s_cons (s_expr (r_bm PySem.F.plainAttrs_list PySem.F.slot_list_append PySem.F.type_list_append okm_append (rv 1) (ra_cons (rv 5) (ra_nil))))
    (s_cons (s_expr (r_bm PySem.F.plainAttrs_list PySem.F.slot_list_append PySem.F.type_list_append okm_append (rv 2) (ra_cons (rv 4) (ra_nil))))
    (s_one (s_set nd rfl (Or.inl rfl) (r_callf (ks := []) G.m_next_link D_next_link bd_next_link_1 (hr.mono R_next_link) hg tk (ra_cons (rv 5) (ra_nil)) (rk_nil)))))))))
    (s_one (s_ret (r_tup (ra_cons (r_callTy (okb_tuple) rfl G.n_tuple bt_tuple (ra_cons (rv 1) (ra_nil))) (ra_cons (r_callTy (okb_tuple) rfl G.n_tuple bt_tuple (ra_cons (rv 2) (ra_nil))) (ra_cons (r_non) (ra_nil)))))))))
theorem D_chain_parts (G : Gs w K mg) : MdOk P w K mg base (nm K) 4 (He.ga K "chain_parts") "chain_parts" "chain_parts" (top 22) ["fault"] F_chain_parts := by
  unfold F_chain_parts
  exact .mk' G.d_chain_parts sc_chain_parts (b_chain_parts G (D_need_fault G) (D_next_link G) _)
/-! Chain.__init__ -/
def s_Chain___init__ : SS := sAsg (eCall (fun xs ys h => F_chain_parts (pick [(false, 0)] xs ys) h) 1 0 (aCons (eVar 1) (aNil)) (aNil)) (gTp [gAttr (okF [2]) 21 (eVar 0), gAttr (okF [2]) 22 (eVar 0), gAttr (okF [2]) 23 (eVar 0)])
@[irreducible] def F_Chain___init__ : List W → Ev.Heap → R := fnOf 2 2 s_Chain___init__
theorem sc_Chain___init__ : FnScope ["self", "fault"] ["self", "fault"] (defScope (inClass (top 23) 0)) := ⟨rfl, rfl, rfl, by decide +kernel, rfl, by decide +kernel, by decide +kernel⟩
theorem b_Chain___init__ (G : Gs w K mg) (D_chain_parts : MdOk P w K mg base (nm K) 4 (He.ga K "chain_parts") "chain_parts" "chain_parts" (top 22) ["fault"] F_chain_parts) (f : Addr) : BodyOk P w K mg base (nm K) ["self", "fault"] "Chain.__init__" (defScope (inClass (top 23) 0)) (defBody (inClass (top 23) 0)) f 4 s_Chain___init__ := by
  intro cdv A outer st H E hr hg
  have hu := hu_of hr
  have hU := hr.units
  have hV : _ + 65 < cLine := Nat.lt_of_le_of_lt (Nat.add_le_add_left (by omega : 65 ≤ 16 * 4 + 200) _) hr.un
  have tk := takes_of (X := cxOf (L2.CX P w) P w K mg base ["self", "fault"] "Chain.__init__" (defScope (inClass (top 23) 0)) f cdv A outer st H E) (E := E) rfl rfl rfl rfl
  have nd := (sc_Chain___init__).nd
  have R_chain_parts : 4 ≤ 4 := by decide
  unfold s_Chain___init__
  exact s_one (s_asg (r_callf (ks := []) G.m_chain_parts D_chain_parts bd_chain_parts_1 (hr.mono R_chain_parts) hg tk (ra_cons (rv 1) (ra_nil)) (rk_nil)) (g_tup rfl (gs_cons (g_attr (set_ok1 G.cl_Chain G.na_Chain_s1_faults) rfl (rv 0)) (gs_cons (g_attr (set_ok1 G.cl_Chain G.na_Chain_s1_ways) rfl (rv 0)) (gs_cons (g_attr (set_ok1 G.cl_Chain G.na_Chain_s1_repeat) rfl (rv 0)) (gs_nil) (gattr_ok _ _ _)) (gattr_ok _ _ _)) (gattr_ok _ _ _)) ⟨(gattr_ok _ _ _), ⟨(gattr_ok _ _ _), ⟨(gattr_ok _ _ _), True.intro⟩⟩⟩ rfl) (gtp_ok ⟨(gattr_ok _ _ _), ⟨(gattr_ok _ _ _), ⟨(gattr_ok _ _ _), True.intro⟩⟩⟩))
theorem D_Chain___init__ (G : Gs w K mg) : MdOk P w K mg base (nm K) 5 (He.ma K (He.ga K "Chain") "__init__") "__init__" "Chain.__init__" (inClass (top 23) 0) ["self", "fault"] F_Chain___init__ := by
  unfold F_Chain___init__
  exact .mk' G.d_Chain___init__ sc_Chain___init__ (b_Chain___init__ G (D_chain_parts G) _)
/-! Chain.__len__ -/
def s_Chain___len__ : SS := sRet (eB bLen (aCons (eAttr (atF [2]) 21 (eVar 0)) (aNil)))
@[irreducible] def F_Chain___len__ : List W → Ev.Heap → R := fnOf 1 1 s_Chain___len__
theorem sc_Chain___len__ : FnScope ["self"] ["self"] (defScope (inClass (top 23) 3)) := ⟨rfl, rfl, rfl, by decide +kernel, rfl, by decide +kernel, by decide +kernel⟩
theorem b_Chain___len__ (G : Gs w K mg)  (f : Addr) : BodyOk P w K mg base (nm K) ["self"] "Chain.__len__" (defScope (inClass (top 23) 3)) (defBody (inClass (top 23) 3)) f 0 s_Chain___len__ := by
  intro cdv A outer st H E hr hg
  have hu := hu_of hr
  have hU := hr.units
  have hV : _ + 65 < cLine := Nat.lt_of_le_of_lt (Nat.add_le_add_left (by omega : 65 ≤ 16 * 0 + 200) _) hr.un
  have tk := takes_of (X := cxOf (L2.CX P w) P w K mg base ["self"] "Chain.__len__" (defScope (inClass (top 23) 3)) f cdv A outer st H E) (E := E) rfl rfl rfl rfl
  have nd := (sc_Chain___len__).nd
  unfold s_Chain___len__
  exact s_one (s_ret (r_callB (okb_len) rfl G.n_len bt_len (ra_cons (r_attr (at_fld1 G.cl_Chain G.na_Chain_s1_faults) rfl (rv 0) rfl) (ra_nil))))
theorem D_Chain___len__ (G : Gs w K mg) : MdOk P w K mg base (nm K) 1 (He.ma K (He.ga K "Chain") "__len__") "__len__" "Chain.__len__" (inClass (top 23) 3) ["self"] F_Chain___len__ := by
  unfold F_Chain___len__
  exact .mk' G.d_Chain___len__ sc_Chain___len__ (b_Chain___len__ G  _)
/-! Chain.repeat -/
def s_Chain_repeat : SS := sRet (eAttr (atF [2]) 23 (eVar 0))
@[irreducible] def F_Chain_repeat : List W → Ev.Heap → R := fnOf 1 1 s_Chain_repeat
theorem sc_Chain_repeat : FnScope ["self"] ["self"] (defScope (inClass (top 23) 2)) := ⟨rfl, rfl, rfl, by decide +kernel, rfl, by decide +kernel, by decide +kernel⟩
theorem b_Chain_repeat (G : Gs w K mg)  (f : Addr) : BodyOk0 P w K mg base (nm K) ["self"] "Chain.repeat" (defScope (inClass (top 23) 2)) (defBody (inClass (top 23) 2)) f 0 s_Chain_repeat := by
  intro cdv A outer st H E hr
  have hu := hu_of hr
  have hU := hr.units
  have hV : _ + 65 < cLine := Nat.lt_of_le_of_lt (Nat.add_le_add_left (by omega : 65 ≤ 16 * 0 + 200) _) hr.un
  have tk := takes_of (X := cxOf (L2.CX P w) P w K mg base ["self"] "Chain.repeat" (defScope (inClass (top 23) 2)) f cdv A outer st H E) (E := E) rfl rfl rfl rfl
  have nd := (sc_Chain_repeat).nd
  unfold s_Chain_repeat
  exact s_one (s_ret (r_attr (at_fld1 G.cl_Chain G.na_Chain_s1_repeat) rfl (rv 0) rfl))
theorem D_Chain_repeat (G : Gs w K mg) : GtOk P w K mg base (nm K) 1 (gad K (pad K (He.ga K "Chain") "repeat")) F_Chain_repeat := by
  unfold F_Chain_repeat
  exact .mk' G.d_Chain_repeat sc_Chain_repeat (b_Chain_repeat G  _) (fun _ _ _ _ _ _ us ws h1 h2 => match us, ws, h1, h2 with | [_], [], _, _ => rfl)
/-! Chain.ways -/
def s_Chain_ways : SS := sRet (eAttr (atF [2]) 22 (eVar 0))
@[irreducible] def F_Chain_ways : List W → Ev.Heap → R := fnOf 1 1 s_Chain_ways
theorem sc_Chain_ways : FnScope ["self"] ["self"] (defScope (inClass (top 23) 1)) := ⟨rfl, rfl, rfl, by decide +kernel, rfl, by decide +kernel, by decide +kernel⟩
theorem b_Chain_ways (G : Gs w K mg)  (f : Addr) : BodyOk0 P w K mg base (nm K) ["self"] "Chain.ways" (defScope (inClass (top 23) 1)) (defBody (inClass (top 23) 1)) f 0 s_Chain_ways := by
  intro cdv A outer st H E hr
  have hu := hu_of hr
  have hU := hr.units
  have hV : _ + 65 < cLine := Nat.lt_of_le_of_lt (Nat.add_le_add_left (by omega : 65 ≤ 16 * 0 + 200) _) hr.un
  have tk := takes_of (X := cxOf (L2.CX P w) P w K mg base ["self"] "Chain.ways" (defScope (inClass (top 23) 1)) f cdv A outer st H E) (E := E) rfl rfl rfl rfl
  have nd := (sc_Chain_ways).nd
  unfold s_Chain_ways
  exact s_one (s_ret (r_attr (at_fld1 G.cl_Chain G.na_Chain_s1_ways) rfl (rv 0) rfl))
theorem D_Chain_ways (G : Gs w K mg) : GtOk P w K mg base (nm K) 1 (gad K (pad K (He.ga K "Chain") "ways")) F_Chain_ways := by
  unfold F_Chain_ways
  exact .mk' G.d_Chain_ways sc_Chain_ways (b_Chain_ways G  _) (fun _ _ _ _ _ _ us ws h1 h2 => match us, ws, h1, h2 with | [_], [], _, _ => rfl)
/-! _law_begun -/
def s__law_begun : SS := sSeq (sAsg (eBin wAdd (eW (.int 32452843)) (eBin wMul (eW (.int 41)) (eB bLen (aCons (eVar 0) (aNil))))) (gNm 1)) (sSeq (sFor (.two 2 3) (iEnumW (aCons (eVar 0) (aNil))) (sAsg (eBin wMod (eBin wAdd (eBin wAdd (eBin wMul (eVar 1) (eW (.int 998244353))) (eVar 3)) (eBin wMul (eW (.int 104723)) (eVar 2))) (eW (.int 2305843009213693951))) (gNm 1))) (sRet (eDct ((eW (.str "mixed"), eVar 1) :: (eW (.str "great"), eComp [3] (.one 3) (iSeq (eVar 0)) (bVal (eBin wGe2 (eVar 3) (eBin wPow (eW (.int 10)) (eW (.int 18))))) (eVar 3)) :: (eW (.str "turn"), eW (.int 0)) :: []))))
@[irreducible] def F__law_begun : List W → Ev.Heap → R := fnOf 1 4 s__law_begun
theorem sc__law_begun : FnScope ["_law_script", "_law_mixed", "_law_k", "_law_cell"] ["_law_script"] (defScope (top 27)) := ⟨rfl, rfl, rfl, by decide +kernel, rfl, by decide +kernel, by decide +kernel⟩
theorem b__law_begun (G : Gs w K mg)  (f : Addr) : BodyOk P w K mg base (nm K) ["_law_script", "_law_mixed", "_law_k", "_law_cell"] "_law_begun" (defScope (top 27)) (defBody (top 27)) f 0 s__law_begun := by
  intro cdv A outer st H E hr hg
  have hu := hu_of hr
  have hU := hr.units
  have hV : _ + 65 < cLine := Nat.lt_of_le_of_lt (Nat.add_le_add_left (by omega : 65 ≤ 16 * 0 + 200) _) hr.un
  have tk := takes_of (X := cxOf (L2.CX P w) P w K mg base ["_law_script", "_law_mixed", "_law_k", "_law_cell"] "_law_begun" (defScope (top 27)) f cdv A outer st H E) (E := E) rfl rfl rfl rfl
  have nd := (sc__law_begun).nd
  unfold s__law_begun
  exact s_cons (s_set nd rfl (Or.inl rfl) (r_bin (ok_add) (r_int) (r_bin (ok_mul) (r_int) (r_callB (okb_len) rfl G.n_len bt_len (ra_cons (rv 0) (ra_nil))))))
    (s_cons (s_for (passes_of rfl) rfl (i_enum rfl G.n_enumerate (ra_cons (rv 0) (ra_nil))) (tg_two rfl (tg_one nd rfl (Or.inl rfl)) (tg_one nd rfl (Or.inl rfl))) (s_one (s_set nd rfl (Or.inl rfl) (r_bin (ok_mod) (r_bin (ok_add) (r_bin (ok_add) (r_bin (ok_mul) (rv 1) (r_int)) (rv 3)) (r_bin (ok_mul) (r_int) (rv 2))) (r_int)))))
    (s_one (s_ret (r_dct (rp_cons (r_str) (rv 1) (rp_cons (r_str) (r_lc rfl nd (i_seq (rv 0)) (own := [("_law_cell", 3)]) (blk_ok (by kernel_rfl)) own_one (fun _ _ _ _ _ => tg_one nd rfl (Or.inl rfl)) (fun _ _ _ _ _ => c_one (t_cmp (ok_ge2) (rv 3) (r_bin (ok_pow) (r_int) (r_int)) (nomark _))) (fun _ _ _ _ _ => rv 3)) (rp_cons (r_str) (r_int) (rp_nil)))) rfl rfl (by simp) (by decide)))))
theorem D__law_begun (G : Gs w K mg) : MdOk P w K mg base (nm K) 1 (He.ga K "_law_begun") "_law_begun" "_law_begun" (top 27) ["_law_script"] F__law_begun := by
  unfold F__law_begun
  exact .mk' G.d__law_begun sc__law_begun (b__law_begun G  _)
/-! is_letter -/
def s_is_letter : SS := sRet (eOr (eChain wLe2 wLe2 (eW (.str "a")) (eVar 0) (eW (.str "z"))) (eChain wLe2 wLe2 (eW (.str "A")) (eVar 0) (eW (.str "Z"))))
@[irreducible] def F_is_letter : List W → Ev.Heap → R := fnOf 1 1 s_is_letter
theorem sc_is_letter : FnScope ["character"] ["character"] (defScope (top 11)) := ⟨rfl, rfl, rfl, by decide +kernel, rfl, by decide +kernel, by decide +kernel⟩
theorem b_is_letter (G : Gs w K mg)  (f : Addr) : BodyOk P w K mg base (nm K) ["character"] "is_letter" (defScope (top 11)) (defBody (top 11)) f 0 s_is_letter := by
  intro cdv A outer st H E hr hg
  have hu := hu_of hr
  have hU := hr.units
  have hV : _ + 65 < cLine := Nat.lt_of_le_of_lt (Nat.add_le_add_left (by omega : 65 ≤ 16 * 0 + 200) _) hr.un
  have tk := takes_of (X := cxOf (L2.CX P w) P w K mg base ["character"] "is_letter" (defScope (top 11)) f cdv A outer st H E) (E := E) rfl rfl rfl rfl
  have nd := (sc_is_letter).nd
  unfold s_is_letter
  exact s_one (s_ret (r_or (r_chain (ok_le2) (ok_le2) (r_str) (rv 0) (r_str)) (r_one (r_chain (ok_le2) (ok_le2) (r_str) (rv 0) (r_str)))))
theorem D_is_letter (G : Gs w K mg) : MdOk P w K mg base (nm K) 1 (He.ga K "is_letter") "is_letter" "is_letter" (top 11) ["character"] F_is_letter := by
  unfold F_is_letter
  exact .mk' G.d_is_letter sc_is_letter (b_is_letter G  _)
/-! is_kind -/
def s_is_kind : SS := sSeq (sIf (bOr (bNot (bTru (eB (bIsi clNo) (aCons (eVar 0) (aCons (eW (.ty "str")) (aNil)))))) (bNot (bVal (eChain wLe2 wLe2 (eW (.int 1)) (eB bLen (aCons (eVar 0) (aNil))) (eW (.int 12)))))) (sRet (eW (.bl false))) (sNil)) (sRet (eAnd (eChain wLe2 wLe2 (eW (.str "A")) (eBin wIx (eVar 0) (eW (.int 0))) (eW (.str "Z"))) (eB bAll (aCons (eComp [1] (.one 1) (iSeq (eVar 0)) (bYes) (eCall (fun xs ys h => F_is_letter (pick [(false, 0)] xs ys) h) 1 0 (aCons (eVar 1) (aNil)) (aNil))) (aNil)))))
@[irreducible] def F_is_kind : List W → Ev.Heap → R := fnOf 1 2 s_is_kind
theorem sc_is_kind : FnScope ["value", "character"] ["value"] (defScope (top 12)) := ⟨rfl, rfl, rfl, by decide +kernel, rfl, by decide +kernel, by decide +kernel⟩
theorem b_is_kind (G : Gs w K mg) (D_is_letter : MdOk P w K mg base (nm K) 1 (He.ga K "is_letter") "is_letter" "is_letter" (top 11) ["character"] F_is_letter) (f : Addr) : BodyOk P w K mg base (nm K) ["value", "character"] "is_kind" (defScope (top 12)) (defBody (top 12)) f 1 s_is_kind := by
  intro cdv A outer st H E hr hg
  have hu := hu_of hr
  have hU := hr.units
  have hV : _ + 65 < cLine := Nat.lt_of_le_of_lt (Nat.add_le_add_left (by omega : 65 ≤ 16 * 1 + 200) _) hr.un
  have tk := takes_of (X := cxOf (L2.CX P w) P w K mg base ["value", "character"] "is_kind" (defScope (top 12)) f cdv A outer st H E) (E := E) rfl rfl rfl rfl
  have nd := (sc_is_kind).nd
  have R_is_letter : 1 ≤ 1 := by decide
  unfold s_is_kind
  exact s_cons (s_if (t_w (w_or (t_not (t_tru (r_callB (okb_isi isi_no) rfl G.n_isinstance bt_isinstance (ra_cons (rv 0) (ra_cons (r_ty rfl G.n_str bt_str) (ra_nil)))))) (w_or1 (t_not (t_chain (ok_le2) (ok_le2) (r_int) (r_callB (okb_len) rfl G.n_len bt_len (ra_cons (rv 0) (ra_nil))) (r_gint G.g_MOST_LETTERS)))))) (s_one (s_ret (r_bl))) (s_nil))
    (s_one (s_ret (r_and (r_chain (ok_le2) (ok_le2) (r_str) (rix hu (rv 0) (r_int)) (r_str)) (r_one (r_callB (okb_all rfl) rfl G.n_all bt_all (ra_cons (r_lc rfl nd (i_seq (rv 0)) (own := [("character", 1)]) (blk_ok (by kernel_rfl)) own_one (fun _ _ _ _ _ => tg_one nd rfl (Or.inl rfl)) (fun _ _ _ _ _ => c_nil) (fun _ _ _ _ _ => r_callf (ks := []) G.m_is_letter D_is_letter bd_is_letter_1 (hr.mono R_is_letter) hg tk0 (ra_cons (rv 1) (ra_nil)) (rk_nil))) (ra_nil)))))))
theorem D_is_kind (G : Gs w K mg) : MdOk P w K mg base (nm K) 2 (He.ga K "is_kind") "is_kind" "is_kind" (top 12) ["value"] F_is_kind := by
  unfold F_is_kind
  exact .mk' G.d_is_kind sc_is_kind (b_is_kind G (D_is_letter G) _)
/-! is_label -/
def s_is_label : SS := sSeq (sIf (bOr (bNot (bTru (eB (bIsi clNo) (aCons (eVar 0) (aCons (eW (.ty "str")) (aNil)))))) (bVal (eBin wGt2 (eB bLen (aCons (eVar 0) (aNil))) (eW (.int 40))))) (sRet (eW (.bl false))) (sNil)) (sRet (eB bAll (aCons (eComp [1] (.one 1) (iSeq (eVar 0)) (bYes) (eAnd (eChain wLe2 wLe2 (eW (.int 32)) (eB bOrd (aCons (eVar 1) (aNil))) (eW (.int 126))) (eBin wNe (eB bOrd (aCons (eVar 1) (aNil))) (eW (.int 37))))) (aNil))))
@[irreducible] def F_is_label : List W → Ev.Heap → R := fnOf 1 2 s_is_label
theorem sc_is_label : FnScope ["value", "character"] ["value"] (defScope (top 13)) := ⟨rfl, rfl, rfl, by decide +kernel, rfl, by decide +kernel, by decide +kernel⟩
theorem b_is_label (G : Gs w K mg)  (f : Addr) : BodyOk P w K mg base (nm K) ["value", "character"] "is_label" (defScope (top 13)) (defBody (top 13)) f 0 s_is_label := by
  intro cdv A outer st H E hr hg
  have hu := hu_of hr
  have hU := hr.units
  have hV : _ + 65 < cLine := Nat.lt_of_le_of_lt (Nat.add_le_add_left (by omega : 65 ≤ 16 * 0 + 200) _) hr.un
  have tk := takes_of (X := cxOf (L2.CX P w) P w K mg base ["value", "character"] "is_label" (defScope (top 13)) f cdv A outer st H E) (E := E) rfl rfl rfl rfl
  have nd := (sc_is_label).nd
  unfold s_is_label
  exact s_cons (s_if (t_w (w_or (t_not (t_tru (r_callB (okb_isi isi_no) rfl G.n_isinstance bt_isinstance (ra_cons (rv 0) (ra_cons (r_ty rfl G.n_str bt_str) (ra_nil)))))) (w_or1 (t_cmp (ok_gt2) (r_callB (okb_len) rfl G.n_len bt_len (ra_cons (rv 0) (ra_nil))) (r_gint G.g_MOST_LABEL) (nomark _))))) (s_one (s_ret (r_bl))) (s_nil))
    (s_one (s_ret (r_callB (okb_all rfl) rfl G.n_all bt_all (ra_cons (r_lc rfl nd (i_seq (rv 0)) (own := [("character", 1)]) (blk_ok (by kernel_rfl)) own_one (fun _ _ _ _ _ => tg_one nd rfl (Or.inl rfl)) (fun _ _ _ _ _ => c_nil) (fun _ _ _ _ _ => r_and (r_chain (ok_le2) (ok_le2) (r_int) (r_callB (okb_ord) rfl G.n_ord bt_ord (ra_cons (rv 1) (ra_nil))) (r_int)) (r_one (r_cmp (ok_ne hU) (r_callB (okb_ord) rfl G.n_ord bt_ord (ra_cons (rv 1) (ra_nil))) (r_int) (nomark _))))) (ra_nil)))))
theorem D_is_label (G : Gs w K mg) : MdOk P w K mg base (nm K) 1 (He.ga K "is_label") "is_label" "is_label" (top 13) ["value"] F_is_label := by
  unfold F_is_label
  exact .mk' G.d_is_label sc_is_label (b_is_label G  _)
/-! Fault.__init__ -/
def s_Fault___init__ : SS := sSeq (sIf (bNot (bTru (eCall (fun xs ys h => F_is_kind (pick [(false, 0)] xs ys) h) 1 0 (aCons (eVar 1) (aNil)) (aNil)))) (sBad) (sNil)) (sSeq (sIf (bNot (bTru (eCall (fun xs ys h => F_is_label (pick [(false, 0)] xs ys) h) 1 0 (aCons (eVar 2) (aNil)) (aNil)))) (sBad) (sNil)) (sSeq (sIf (bOr (bNot (bTru (eB (bIsi clNo) (aCons (eVar 3) (aCons (eW (.ty "int")) (aNil)))))) (bOr (bTru (eB (bIsi clNo) (aCons (eVar 3) (aCons (eW (.ty "bool")) (aNil))))) (bVal (eBin wLt2 (eVar 3) (eW (.int 0)))))) (sBad) (sNil)) (sSeq (sAsg (eTup (aCons (eVar 1) (aCons (eVar 2) (aCons (eVar 3) (aNil))))) (gTp [gAttr (okF [0]) 0 (eVar 0), gAttr (okF [0]) 1 (eVar 0), gAttr (okF [0]) 2 (eVar 0)])) (sSeq (sAsg (eW .non) (gAttr (okF [0]) 3 (eVar 0))) (sSeq (sAsg (eW .non) (gAttr (okF [0]) 4 (eVar 0))) (sAsg (eW (.bl false)) (gAttr (okF [0]) 5 (eVar 0))))))))
@[irreducible] def F_Fault___init__ : List W → Ev.Heap → R := fnOf 4 4 s_Fault___init__
theorem sc_Fault___init__ : FnScope ["self", "kind", "label", "number"] ["self", "kind", "label", "number"] (defScope (inClass (top 15) 0)) := ⟨rfl, rfl, rfl, by decide +kernel, rfl, by decide +kernel, by decide +kernel⟩
theorem b_Fault___init__ (G : Gs w K mg) (D_is_kind : MdOk P w K mg base (nm K) 2 (He.ga K "is_kind") "is_kind" "is_kind" (top 12) ["value"] F_is_kind) (D_is_label : MdOk P w K mg base (nm K) 1 (He.ga K "is_label") "is_label" "is_label" (top 13) ["value"] F_is_label) (f : Addr) : BodyOk P w K mg base (nm K) ["self", "kind", "label", "number"] "Fault.__init__" (defScope (inClass (top 15) 0)) (defBody (inClass (top 15) 0)) f 2 s_Fault___init__ := by
  intro cdv A outer st H E hr hg
  have hu := hu_of hr
  have hU := hr.units
  have hV : _ + 65 < cLine := Nat.lt_of_le_of_lt (Nat.add_le_add_left (by omega : 65 ≤ 16 * 2 + 200) _) hr.un
  have tk := takes_of (X := cxOf (L2.CX P w) P w K mg base ["self", "kind", "label", "number"] "Fault.__init__" (defScope (inClass (top 15) 0)) f cdv A outer st H E) (E := E) rfl rfl rfl rfl
  have nd := (sc_Fault___init__).nd
  have R_is_kind : 2 ≤ 2 := by decide
  have R_is_label : 1 ≤ 2 := by decide
  unfold s_Fault___init__
  exact s_cons (s_if (t_not (t_tru (r_callf (ks := []) G.m_is_kind D_is_kind bd_is_kind_1 (hr.mono R_is_kind) hg tk (ra_cons (rv 1) (ra_nil)) (rk_nil)))) (s_one (s_bad)) (s_nil))
    (s_cons (s_if (t_not (t_tru (r_callf (ks := []) G.m_is_label D_is_label bd_is_label_1 (hr.mono R_is_label) hg tk (ra_cons (rv 2) (ra_nil)) (rk_nil)))) (s_one (s_bad)) (s_nil))
    (s_cons (s_if (t_w (w_or (t_not (t_tru (r_callB (okb_isi isi_no) rfl G.n_isinstance bt_isinstance (ra_cons (rv 3) (ra_cons (r_ty rfl G.n_int bt_int) (ra_nil)))))) (w_or (t_tru (r_callB (okb_isi isi_no) rfl G.n_isinstance bt_isinstance (ra_cons (rv 3) (ra_cons (r_ty rfl G.n_bool bt_bool) (ra_nil))))) (w_or1 (t_cmp (ok_lt2) (rv 3) (r_int) (nomark _)))))) (s_one (s_bad)) (s_nil))
    (s_cons (s_asg (r_tup (ra_cons (rv 1) (ra_cons (rv 2) (ra_cons (rv 3) (ra_nil))))) (g_tup rfl (gs_cons (g_attr (set_ok1 G.cl_Fault G.na_Fault_s1_kind) rfl (rv 0)) (gs_cons (g_attr (set_ok1 G.cl_Fault G.na_Fault_s1_label) rfl (rv 0)) (gs_cons (g_attr (set_ok1 G.cl_Fault G.na_Fault_s1_number) rfl (rv 0)) (gs_nil) (gattr_ok _ _ _)) (gattr_ok _ _ _)) (gattr_ok _ _ _)) ⟨(gattr_ok _ _ _), ⟨(gattr_ok _ _ _), ⟨(gattr_ok _ _ _), True.intro⟩⟩⟩ rfl) (gtp_ok ⟨(gattr_ok _ _ _), ⟨(gattr_ok _ _ _), ⟨(gattr_ok _ _ _), True.intro⟩⟩⟩))
    (s_cons (s_asg (r_non) (g_attr (set_ok1 G.cl_Fault G.na_Fault_s1_context) rfl (rv 0)) (gattr_ok _ _ _))
    (s_cons (s_asg (r_non) (g_attr (set_ok1 G.cl_Fault G.na_Fault_s1_cause) rfl (rv 0)) (gattr_ok _ _ _))
    (s_one (s_asg (r_bl) (g_attr (set_ok1 G.cl_Fault G.na_Fault_s1_hides) rfl (rv 0)) (gattr_ok _ _ _))))))))
theorem D_Fault___init__ (G : Gs w K mg) : MdOk P w K mg base (nm K) 3 (He.ma K (He.ga K "Fault") "__init__") "__init__" "Fault.__init__" (inClass (top 15) 0) ["self", "kind", "label", "number"] F_Fault___init__ := by
  unfold F_Fault___init__
  exact .mk' G.d_Fault___init__ sc_Fault___init__ (b_Fault___init__ G (D_is_kind G) (D_is_label G) _)
/-! _law_next -/
def s__law_next : SS := sSeq (sAsg (eTup (aCons (eBin wAdd (eBin wIx (eVar 0) (eW (.str "turn"))) (eW (.int 1))) (aCons (eBin wIx (eVar 0) (eW (.str "great"))) (aNil)))) (gTp [gSb (eVar 0) (eW (.str "turn")), gNm 2])) (sSeq (sAsg (eBin wMod (eBin wIx (eVar 0) (eW (.str "turn"))) (eB bMax2 (aCons (eW (.int 1)) (aCons (eB bLen (aCons (eVar 2) (aNil))) (aNil))))) (gNm 3)) (sSeq (sIf (bAnd (bVal (eBin wNe (eVar 2) (eLst (aNil)))) (bVal (eBin wGt2 (eBin wIx (eVar 2) (eVar 3)) (eW (.int 0))))) (sSeq (sAsg (eBin wMod (eBin wIx (eVar 2) (eVar 3)) (eVar 1)) (gNm 4)) (sSeq (sAsg (eBin wFdv (eBin wIx (eVar 2) (eVar 3)) (eVar 1)) (gSb (eVar 2) (eVar 3))) (sRet (eVar 4)))) (sNil)) (sSeq (sAsg (eBin wAdd (eBin wAdd (eBin wMul (eBin wIx (eVar 0) (eW (.str "mixed"))) (eW (.int 6364136223846793))) (eBin wMul (eW (.int 1442695040888963)) (eBin wIx (eVar 0) (eW (.str "turn"))))) (eW (.int 11))) (gNm 5)) (sSeq (sAsg (eBin wMod (eVar 5) (eW (.int 2305843009213693951))) (gSb (eVar 0) (eW (.str "mixed")))) (sRet (eBin wMod (eBin wFdv (eBin wIx (eVar 0) (eW (.str "mixed"))) (eW (.int 32749))) (eVar 1)))))))
@[irreducible] def F__law_next : List W → Ev.Heap → R := fnOf 2 6 s__law_next
theorem sc__law_next : FnScope ["_law_draw", "_law_below", "_law_great", "_law_at", "_law_found", "_law_mixed"] ["_law_draw", "_law_below"] (defScope (top 28)) := ⟨rfl, rfl, rfl, by decide +kernel, rfl, by decide +kernel, by decide +kernel⟩
theorem b__law_next (G : Gs w K mg)  (f : Addr) : BodyOk P w K mg base (nm K) ["_law_draw", "_law_below", "_law_great", "_law_at", "_law_found", "_law_mixed"] "_law_next" (defScope (top 28)) (defBody (top 28)) f 0 s__law_next := by
  intro cdv A outer st H E hr hg
  have hu := hu_of hr
  have hU := hr.units
  have hV : _ + 65 < cLine := Nat.lt_of_le_of_lt (Nat.add_le_add_left (by omega : 65 ≤ 16 * 0 + 200) _) hr.un
  have tk := takes_of (X := cxOf (L2.CX P w) P w K mg base ["_law_draw", "_law_below", "_law_great", "_law_at", "_law_found", "_law_mixed"] "_law_next" (defScope (top 28)) f cdv A outer st H E) (E := E) rfl rfl rfl rfl
  have nd := (sc__law_next).nd
  unfold s__law_next
  exact s_cons (s_asg (r_tup (ra_cons (r_bin (ok_add) (rix hu (rv 0) (r_str)) (r_int)) (ra_cons (rix hu (rv 0) (r_str)) (ra_nil)))) (g_tup rfl (gs_cons (g_sub hu (rv 0) (r_str)) (gs_cons (g_name nd rfl (Or.inl rfl)) (gs_nil) (gnm_ok _)) (gsb_ok _ _)) ⟨(gsb_ok _ _), ⟨(gnm_ok _), True.intro⟩⟩ rfl) (gtp_ok ⟨(gsb_ok _ _), ⟨(gnm_ok _), True.intro⟩⟩))
    (s_cons (s_set nd rfl (Or.inl rfl) (r_bin (ok_mod) (rix hu (rv 0) (r_str)) (r_callB (okb_max2 rfl) rfl G.n_max bt_max (ra_cons (r_int) (ra_cons (r_callB (okb_len) rfl G.n_len bt_len (ra_cons (rv 2) (ra_nil))) (ra_nil))))))
    (s_cons (s_if (t_w (w_and (t_cmp (ok_ne hU) (rv 2) (r_lst (ra_nil)) (nomark _)) (w_and1 (t_cmp (ok_gt2) (rix hu (rv 2) (rv 3)) (r_int) (nomark _))))) (s_cons (s_set nd rfl (Or.inl rfl) (r_bin (ok_mod) (rix hu (rv 2) (rv 3)) (rv 1)))
    (s_cons (s_asg (r_bin (ok_fdv) (rix hu (rv 2) (rv 3)) (rv 1)) (g_sub hu (rv 2) (rv 3)) (gsb_ok _ _))
    (s_one (s_ret (rv 4))))) (s_nil))
    (s_cons (s_set nd rfl (Or.inl rfl) (r_bin (ok_add) (r_bin (ok_add) (r_bin (ok_mul) (rix hu (rv 0) (r_str)) (r_int)) (r_bin (ok_mul) (r_int) (rix hu (rv 0) (r_str)))) (r_int)))
    (s_cons (s_asg (r_bin (ok_mod) (rv 5) (r_int)) (g_sub hu (rv 0) (r_str)) (gsb_ok _ _))
    (s_one (s_ret (r_bin (ok_mod) (r_bin (ok_fdv) (rix hu (rv 0) (r_str)) (r_int)) (rv 1))))))))
theorem D__law_next (G : Gs w K mg) : MdOk P w K mg base (nm K) 1 (He.ga K "_law_next") "_law_next" "_law_next" (top 28) ["_law_draw", "_law_below"] F__law_next := by
  unfold F__law_next
  exact .mk' G.d__law_next sc__law_next (b__law_next G  _)
/-! need_fault_or_none -/
def s_need_fault_or_none : SS := sIf (bVal (eBin wIsnt (eVar 0) (eW .non))) (sExpr (eCall (fun xs ys h => F_need_fault (pick [(false, 0)] xs ys) h) 1 0 (aCons (eVar 0) (aNil)) (aNil))) (sNil)
@[irreducible] def F_need_fault_or_none : List W → Ev.Heap → R := fnOf 1 1 s_need_fault_or_none
theorem sc_need_fault_or_none : FnScope ["value"] ["value"] (defScope (top 17)) := ⟨rfl, rfl, rfl, by decide +kernel, rfl, by decide +kernel, by decide +kernel⟩
theorem b_need_fault_or_none (G : Gs w K mg) (D_need_fault : MdOk P w K mg base (nm K) 1 (He.ga K "need_fault") "need_fault" "need_fault" (top 16) ["value"] F_need_fault) (f : Addr) : BodyOk P w K mg base (nm K) ["value"] "need_fault_or_none" (defScope (top 17)) (defBody (top 17)) f 1 s_need_fault_or_none := by
  intro cdv A outer st H E hr hg
  have hu := hu_of hr
  have hU := hr.units
  have hV : _ + 65 < cLine := Nat.lt_of_le_of_lt (Nat.add_le_add_left (by omega : 65 ≤ 16 * 1 + 200) _) hr.un
  have tk := takes_of (X := cxOf (L2.CX P w) P w K mg base ["value"] "need_fault_or_none" (defScope (top 17)) f cdv A outer st H E) (E := E) rfl rfl rfl rfl
  have nd := (sc_need_fault_or_none).nd
  have R_need_fault : 1 ≤ 1 := by decide
  unfold s_need_fault_or_none
  exact s_one (s_if (t_cmp (ok_isnt) (rv 0) (r_non) (nomark _)) (s_one (s_expr (r_callf (ks := []) G.m_need_fault D_need_fault bd_need_fault_1 (hr.mono R_need_fault) hg tk (ra_cons (rv 0) (ra_nil)) (rk_nil)))) (s_nil))
theorem D_need_fault_or_none (G : Gs w K mg) : MdOk P w K mg base (nm K) 2 (He.ga K "need_fault_or_none") "need_fault_or_none" "need_fault_or_none" (top 17) ["value"] F_need_fault_or_none := by
  unfold F_need_fault_or_none
  exact .mk' G.d_need_fault_or_none sc_need_fault_or_none (b_need_fault_or_none G (D_need_fault G) _)
/-! raise_under -/
def s_raise_under : SS := sSeq (sExpr (eCall (fun xs ys h => F_need_fault (pick [(false, 0)] xs ys) h) 1 0 (aCons (eVar 0) (aNil)) (aNil))) (sSeq (sExpr (eCall (fun xs ys h => F_need_fault_or_none (pick [(false, 0)] xs ys) h) 1 0 (aCons (eVar 1) (aNil)) (aNil))) (sSeq (sIf (bOr (bVal (eBin wIs (eVar 1) (eW .non))) (bVal (eBin (wEqI idF) (eVar 1) (eVar 0)))) (sRetN) (sNil)) (sSeq (sAsg (eVar 1) (gNm 2)) (sSeq (whileL (bAnd (bVal (eBin wIsnt (eAttr (atF [0]) 3 (eVar 2)) (eW .non))) (bVal (eBin (wNeI idF) (eAttr (atF [0]) 3 (eVar 2)) (eVar 0)))) (sAsg (eAttr (atF [0]) 3 (eVar 2)) (gNm 2)) 100000) (sSeq (sAsg (eW .non) (gAttr (okF [0]) 3 (eVar 2))) (sAsg (eVar 1) (gAttr (okF [0]) 3 (eVar 0))))))))
@[irreducible] def F_raise_under : List W → Ev.Heap → R := fnOf 2 3 s_raise_under
theorem sc_raise_under : FnScope ["fault", "handled", "here"] ["fault", "handled"] (defScope (top 18)) := ⟨rfl, rfl, rfl, by decide +kernel, rfl, by decide +kernel, by decide +kernel⟩
theorem b_raise_under (G : Gs w K mg) (D_need_fault : MdOk P w K mg base (nm K) 1 (He.ga K "need_fault") "need_fault" "need_fault" (top 16) ["value"] F_need_fault) (D_need_fault_or_none : MdOk P w K mg base (nm K) 2 (He.ga K "need_fault_or_none") "need_fault_or_none" "need_fault_or_none" (top 17) ["value"] F_need_fault_or_none) (f : Addr) : BodyOk P w K mg base (nm K) ["fault", "handled", "here"] "raise_under" (defScope (top 18)) (defBody (top 18)) f 2 s_raise_under := by
  intro cdv A outer st H E hr hg
  have hu := hu_of hr
  have hU := hr.units
  have hV : _ + 65 < cLine := Nat.lt_of_le_of_lt (Nat.add_le_add_left (by omega : 65 ≤ 16 * 2 + 200) _) hr.un
  have tk := takes_of (X := cxOf (L2.CX P w) P w K mg base ["fault", "handled", "here"] "raise_under" (defScope (top 18)) f cdv A outer st H E) (E := E) rfl rfl rfl rfl
  have nd := (sc_raise_under).nd
  have R_need_fault : 1 ≤ 2 := by decide
  have R_need_fault_or_none : 2 ≤ 2 := by decide
  unfold s_raise_under
  exact s_cons (s_expr (r_callf (ks := []) G.m_need_fault D_need_fault bd_need_fault_1 (hr.mono R_need_fault) hg tk (ra_cons (rv 0) (ra_nil)) (rk_nil)))
    (s_cons (s_expr (r_callf (ks := []) G.m_need_fault_or_none D_need_fault_or_none bd_need_fault_or_none_1 (hr.mono R_need_fault_or_none) hg tk (ra_cons (rv 1) (ra_nil)) (rk_nil)))
    (s_cons (s_if (t_w (w_or (t_cmp (ok_is) (rv 1) (r_non) (nomark _)) (w_or1 (t_cmp (ok_eqI (ic G) hU) (rv 1) (rv 0) (nomark _))))) (s_one (s_retN)) (s_nil))
    (s_cons (s_set nd rfl (Or.inl rfl) (rv 1))
    (s_cons (s_while 100000 (passes_of rfl) (t_w (w_and (t_cmp (ok_isnt) (r_attr (at_fld1 G.cl_Fault G.na_Fault_s1_context) rfl (rv 2) rfl) (r_non) (nomark _)) (w_and1 (t_cmp (ok_neI (ic G) hU) (r_attr (at_fld1 G.cl_Fault G.na_Fault_s1_context) rfl (rv 2) rfl) (rv 0) (nomark _))))) (s_one (s_set nd rfl (Or.inl rfl) (r_attr (at_fld1 G.cl_Fault G.na_Fault_s1_context) rfl (rv 2) rfl))))
    (s_cons (s_asg (r_non) (g_attr (set_ok1 G.cl_Fault G.na_Fault_s1_context) rfl (rv 2)) (gattr_ok _ _ _))
    (s_one (s_asg (rv 1) (g_attr (set_ok1 G.cl_Fault G.na_Fault_s1_context) rfl (rv 0)) (gattr_ok _ _ _))))))))
theorem D_raise_under (G : Gs w K mg) : MdOk P w K mg base (nm K) 3 (He.ga K "raise_under") "raise_under" "raise_under" (top 18) ["fault", "handled"] F_raise_under := by
  unfold F_raise_under
  exact .mk' G.d_raise_under sc_raise_under (b_raise_under G (D_need_fault G) (D_need_fault_or_none G) _)
/-! _law_handled -/
def s__law_handled_1 : SS := sExpr (eBm "list" mAppend (eVar 3) (aCons (eCall (mkObj 0 F_Fault___init__ (pick [(false, 0), (false, 1), (false, 2), (false, 3)])) 3 0 (aCons (eW (.str "Stop")) (aCons (eBin wAdd (eW (.str "s")) (eB bStr (aCons (eVar 4) (aNil)))) (aCons (eVar 4) (aNil)))) (aNil)) (aNil)))
def s__law_handled_2 : SS := sExpr (eCall (fun xs ys h => F_raise_under (pick [(false, 0), (false, 1)] xs ys) h) 2 0 (aCons (eBin wIx (eVar 3) (eVar 4)) (aCons (eBin wIx (eVar 3) (eCall (fun xs ys h => F__law_next (pick [(false, 0), (false, 1)] xs ys) h) 2 0 (aCons (eVar 0) (aCons (eVar 4) (aNil))) (aNil))) (aNil))) (aNil))
def s__law_handled_3 : SS := sAsg (eLst (aCons (eCall (mkObj 0 F_Fault___init__ (pick [(false, 0), (false, 1), (false, 2), (false, 3)])) 3 0 (aCons (eW (.str "Error")) (aCons (eW (.str "e")) (aCons (eW (.int 0)) (aNil)))) (aNil)) (aNil))) (gNm 3)
def s__law_handled_4 : SS := sFor (.one 4) (iRange2 (aCons (eW (.int 1)) (aCons (eVar 1) (aNil)))) (sSeq (s__law_handled_1) (s__law_handled_2))
def s__law_handled_5 : SS := sFor (.one 4) (iRange1 (aCons (eVar 2) (aNil))) (sExpr (eCall (fun xs ys h => F_raise_under (pick [(false, 0), (false, 1)] xs ys) h) 2 0 (aCons (eBin wIx (eVar 3) (eCall (fun xs ys h => F__law_next (pick [(false, 0), (false, 1)] xs ys) h) 2 0 (aCons (eVar 0) (aCons (eVar 1) (aNil))) (aNil))) (aCons (eBin wIx (eVar 3) (eCall (fun xs ys h => F__law_next (pick [(false, 0), (false, 1)] xs ys) h) 2 0 (aCons (eVar 0) (aCons (eVar 1) (aNil))) (aNil))) (aNil))) (aNil)))
def s__law_handled_6 : SS := sRet (eVar 3)
def s__law_handled : SS := sSeq (s__law_handled_3) (sSeq (s__law_handled_4) (sSeq (s__law_handled_5) (s__law_handled_6)))
@[irreducible] def F__law_handled : List W → Ev.Heap → R := fnOf 3 5 s__law_handled
theorem sc__law_handled : FnScope ["_law_draw", "_law_many", "_law_again", "_law_found", "_law_n"] ["_law_draw", "_law_many", "_law_again"] (defScope (top 29)) := ⟨rfl, rfl, rfl, by decide +kernel, rfl, by decide +kernel, by decide +kernel⟩
theorem b__law_handled (G : Gs w K mg) (D_Fault___init__ : MdOk P w K mg base (nm K) 3 (He.ma K (He.ga K "Fault") "__init__") "__init__" "Fault.__init__" (inClass (top 15) 0) ["self", "kind", "label", "number"] F_Fault___init__) (D__law_next : MdOk P w K mg base (nm K) 1 (He.ga K "_law_next") "_law_next" "_law_next" (top 28) ["_law_draw", "_law_below"] F__law_next) (D_raise_under : MdOk P w K mg base (nm K) 3 (He.ga K "raise_under") "raise_under" "raise_under" (top 18) ["fault", "handled"] F_raise_under) (f : Addr) : BodyOk P w K mg base (nm K) ["_law_draw", "_law_many", "_law_again", "_law_found", "_law_n"] "_law_handled" (defScope (top 29)) (defBody (top 29)) f 4 s__law_handled := by
  intro cdv A outer st H E hr hg
  have hu := hu_of hr
  have hU := hr.units
  have hV : _ + 65 < cLine := Nat.lt_of_le_of_lt (Nat.add_le_add_left (by omega : 65 ≤ 16 * 4 + 200) _) hr.un
  have tk := takes_of (X := cxOf (L2.CX P w) P w K mg base ["_law_draw", "_law_many", "_law_again", "_law_found", "_law_n"] "_law_handled" (defScope (top 29)) f cdv A outer st H E) (E := E) rfl rfl rfl rfl
  have nd := (sc__law_handled).nd
  have R_Fault___init__ : 4 ≤ 4 := by decide
  have R__law_next : 1 ≤ 4 := by decide
  have R_raise_under : 3 ≤ 4 := by decide
  unfold s__law_handled
  exact s_cons (s_set nd rfl (Or.inl rfl) (r_lst (ra_cons (r_make (ks := []) G.mk_Fault D_Fault___init__ bd_Fault___init___4 G.m_Fault (hr.mono R_Fault___init__) hg tk (ra_cons (r_str) (ra_cons (r_str) (ra_cons (r_int) (ra_nil)))) (rk_nil)) (ra_nil))))
    (s_cons (s_for (passes_of rfl) rfl (i_range2 rfl G.n_range (ra_cons (r_int) (ra_cons (rv 1) (ra_nil)))) (tg_one nd rfl (Or.inl rfl)) (s_cons (s_expr (r_bm PySem.F.plainAttrs_list PySem.F.slot_list_append PySem.F.type_list_append okm_append (rv 3) (ra_cons (r_make (ks := []) G.mk_Fault D_Fault___init__ bd_Fault___init___4 G.m_Fault (hr.mono R_Fault___init__) hg tk (ra_cons (r_str) (ra_cons (r_bin (ok_add) (r_str) (r_callTy (okb_str) rfl G.n_str bt_str (ra_cons (rv 4) (ra_nil)))) (ra_cons (rv 4) (ra_nil)))) (rk_nil)) (ra_nil))))
    (s_one (s_expr (r_callf (ks := []) G.m_raise_under D_raise_under bd_raise_under_2 (hr.mono R_raise_under) hg tk (ra_cons (rix hu (rv 3) (rv 4)) (ra_cons (rix hu (rv 3) (r_callf (ks := []) G.m__law_next D__law_next bd__law_next_2 (hr.mono R__law_next) hg tk (ra_cons (rv 0) (ra_cons (rv 4) (ra_nil))) (rk_nil))) (ra_nil))) (rk_nil))))))
    (s_cons (s_for (passes_of rfl) rfl (i_range1 rfl G.n_range (ra_cons (rv 2) (ra_nil))) (tg_one nd rfl (Or.inl rfl)) (s_one (s_expr (r_callf (ks := []) G.m_raise_under D_raise_under bd_raise_under_2 (hr.mono R_raise_under) hg tk (ra_cons (rix hu (rv 3) (r_callf (ks := []) G.m__law_next D__law_next bd__law_next_2 (hr.mono R__law_next) hg tk (ra_cons (rv 0) (ra_cons (rv 1) (ra_nil))) (rk_nil))) (ra_cons (rix hu (rv 3) (r_callf (ks := []) G.m__law_next D__law_next bd__law_next_2 (hr.mono R__law_next) hg tk (ra_cons (rv 0) (ra_cons (rv 1) (ra_nil))) (rk_nil))) (ra_nil))) (rk_nil)))))
    (s_one (s_ret (rv 3)))))
theorem D__law_handled (G : Gs w K mg) : MdOk P w K mg base (nm K) 5 (He.ga K "_law_handled") "_law_handled" "_law_handled" (top 29) ["_law_draw", "_law_many", "_law_again"] F__law_handled := by
  unfold F__law_handled
  exact .mk' G.d__law_handled sc__law_handled (b__law_handled G (D_Fault___init__ G) (D__law_next G) (D_raise_under G) _)
/-! Chain.__getitem__ -/
def s_Chain___getitem__ : SS := sSeq (sIf (bOr (bNot (bTru (eB (bIsi clNo) (aCons (eVar 1) (aCons (eW (.ty "int")) (aNil)))))) (bOr (bTru (eB (bIsi clNo) (aCons (eVar 1) (aCons (eW (.ty "bool")) (aNil))))) (bNot (bVal (eChain wLe2 wLt2 (eW (.int 0)) (eVar 1) (eB bLen (aCons (eAttr (atF [2]) 21 (eVar 0)) (aNil)))))))) (sBad) (sNil)) (sRet (eBin wIx (eAttr (atF [2]) 21 (eVar 0)) (eVar 1)))
@[irreducible] def F_Chain___getitem__ : List W → Ev.Heap → R := fnOf 2 2 s_Chain___getitem__
theorem sc_Chain___getitem__ : FnScope ["self", "at"] ["self", "at"] (defScope (inClass (top 23) 5)) := ⟨rfl, rfl, rfl, by decide +kernel, rfl, by decide +kernel, by decide +kernel⟩
theorem b_Chain___getitem__ (G : Gs w K mg)  (f : Addr) : BodyOk P w K mg base (nm K) ["self", "at"] "Chain.__getitem__" (defScope (inClass (top 23) 5)) (defBody (inClass (top 23) 5)) f 0 s_Chain___getitem__ := by
  intro cdv A outer st H E hr hg
  have hu := hu_of hr
  have hU := hr.units
  have hV : _ + 65 < cLine := Nat.lt_of_le_of_lt (Nat.add_le_add_left (by omega : 65 ≤ 16 * 0 + 200) _) hr.un
  have tk := takes_of (X := cxOf (L2.CX P w) P w K mg base ["self", "at"] "Chain.__getitem__" (defScope (inClass (top 23) 5)) f cdv A outer st H E) (E := E) rfl rfl rfl rfl
  have nd := (sc_Chain___getitem__).nd
  unfold s_Chain___getitem__
  exact s_cons (s_if (t_w (w_or (t_not (t_tru (r_callB (okb_isi isi_no) rfl G.n_isinstance bt_isinstance (ra_cons (rv 1) (ra_cons (r_ty rfl G.n_int bt_int) (ra_nil)))))) (w_or (t_tru (r_callB (okb_isi isi_no) rfl G.n_isinstance bt_isinstance (ra_cons (rv 1) (ra_cons (r_ty rfl G.n_bool bt_bool) (ra_nil))))) (w_or1 (t_not (t_chain (ok_le2) (ok_lt2) (r_int) (rv 1) (r_callB (okb_len) rfl G.n_len bt_len (ra_cons (r_attr (at_fld1 G.cl_Chain G.na_Chain_s1_faults) rfl (rv 0) rfl) (ra_nil))))))))) (s_one (s_bad)) (s_nil))
    (s_one (s_ret (rix hu (r_attr (at_fld1 G.cl_Chain G.na_Chain_s1_faults) rfl (rv 0) rfl) (rv 1))))
theorem D_Chain___getitem__ (G : Gs w K mg) : MdOk P w K mg base (nm K) 1 (He.ma K (He.ga K "Chain") "__getitem__") "__getitem__" "Chain.__getitem__" (inClass (top 23) 5) ["self", "at"] F_Chain___getitem__ := by
  unfold F_Chain___getitem__
  exact .mk' G.d_Chain___getitem__ sc_Chain___getitem__ (b_Chain___getitem__ G  _)
/-! _law_listed -/
def s__law_listed : SS := sRet (eComp [1] (.one 1) (iRange1 (aCons (eB (bLenC 2 (fun xs h => F_Chain___len__ (pick [(false, 0)] xs []) h)) (aCons (eVar 0) (aNil))) (aNil))) (bYes) (eBin (wGetC 2 (fun xs h => F_Chain___getitem__ (pick [(false, 0), (false, 1)] xs []) h)) (eVar 0) (eVar 1)))
@[irreducible] def F__law_listed : List W → Ev.Heap → R := fnOf 1 2 s__law_listed
theorem sc__law_listed : FnScope ["_law_chain", "_law_n"] ["_law_chain"] (defScope (top 30)) := ⟨rfl, rfl, rfl, by decide +kernel, rfl, by decide +kernel, by decide +kernel⟩
theorem b__law_listed (G : Gs w K mg) (D_Chain___getitem__ : MdOk P w K mg base (nm K) 1 (He.ma K (He.ga K "Chain") "__getitem__") "__getitem__" "Chain.__getitem__" (inClass (top 23) 5) ["self", "at"] F_Chain___getitem__) (D_Chain___len__ : MdOk P w K mg base (nm K) 1 (He.ma K (He.ga K "Chain") "__len__") "__len__" "Chain.__len__" (inClass (top 23) 3) ["self"] F_Chain___len__) (f : Addr) : BodyOk P w K mg base (nm K) ["_law_chain", "_law_n"] "_law_listed" (defScope (top 30)) (defBody (top 30)) f 2 s__law_listed := by
  intro cdv A outer st H E hr hg
  have hu := hu_of hr
  have hU := hr.units
  have hV : _ + 65 < cLine := Nat.lt_of_le_of_lt (Nat.add_le_add_left (by omega : 65 ≤ 16 * 2 + 200) _) hr.un
  have tk := takes_of (X := cxOf (L2.CX P w) P w K mg base ["_law_chain", "_law_n"] "_law_listed" (defScope (top 30)) f cdv A outer st H E) (E := E) rfl rfl rfl rfl
  have nd := (sc__law_listed).nd
  have R_Chain___getitem__ : 2 ≤ 2 := by decide
  have R_Chain___len__ : 2 ≤ 2 := by decide
  unfold s__law_listed
  exact s_one (s_ret (r_lc rfl nd (i_range1 rfl G.n_range (ra_cons (r_callB (okb_lenC G.me_Chain___len__ D_Chain___len__ bd_Chain___len___1 (hr.mono R_Chain___len__) hg) rfl G.n_len bt_len (ra_cons (rv 0) (ra_nil))) (ra_nil))) (own := [("_law_n", 1)]) (blk_ok (by kernel_rfl)) own_one (fun _ _ _ _ _ => tg_one nd rfl (Or.inl rfl)) (fun _ _ _ _ _ => c_nil) (fun _ _ _ _ _ => r_getC G.me_Chain___getitem__ D_Chain___getitem__ bd_Chain___getitem___2 (hr.mono R_Chain___getitem__) hg (rv 0) (rv 1))))
theorem D__law_listed (G : Gs w K mg) : MdOk P w K mg base (nm K) 3 (He.ga K "_law_listed") "_law_listed" "_law_listed" (top 30) ["_law_chain"] F__law_listed := by
  unfold F__law_listed
  exact .mk' G.d__law_listed sc__law_listed (b__law_listed G (D_Chain___getitem__ G) (D_Chain___len__ G) _)
/-! _law_meeting_right -/
def s__law_meeting_right_1 : SS := sAsg (eCall (fun xs ys h => F__law_listed (pick [(false, 0)] xs ys) h) 1 0 (aCons (eCall (mkObj 2 F_Chain___init__ (pick [(false, 0), (false, 1)])) 1 0 (aCons (eVar 4) (aNil)) (aNil)) (aNil)) (aNil)) (gNm 5)
def s__law_meeting_right_2 : SS := sIf (bVal (eBin (wNeL idF) (eSl (eVar 5) (oNone) (oSome (eBin wSub (eB bLen (aCons (eVar 2) (aNil))) (eVar 3)))) (eSl (eVar 2) (oSome (eVar 3)) (oNone)))) (sRet (eW (.bl false))) (sNil)
def s__law_meeting_right_3 : SS := sAsg (eCall (fun xs ys h => F__law_listed (pick [(false, 0)] xs ys) h) 1 0 (aCons (eCall (mkObj 2 F_Chain___init__ (pick [(false, 0), (false, 1)])) 1 0 (aCons (eVar 1) (aNil)) (aNil)) (aNil)) (aNil)) (gNm 2)
def s__law_meeting_right_4 : SS := sIf (bVal (eBin wGt2 (eB bLen (aCons (eComp [6, 7] (.two 6 7) (iEnumW (aCons (eVar 2) (aNil))) (bVal (eBin (wInI idF) (eVar 7) (eSl (eVar 2) (oNone) (oSome (eVar 6))))) (eVar 6)) (aNil))) (eW (.int 0)))) (sRet (eW (.bl false))) (sNil)
def s__law_meeting_right_5 : SS := sFor (.two 3 4) (iEnumW (aCons (eVar 2) (aNil))) (sSeq (s__law_meeting_right_1) (s__law_meeting_right_2))
def s__law_meeting_right_6 : SS := sFor (.one 1) (iSeq (eVar 0)) (sSeq (s__law_meeting_right_3) (sSeq (s__law_meeting_right_4) (s__law_meeting_right_5)))
def s__law_meeting_right_7 : SS := sRet (eW (.bl true))
def s__law_meeting_right : SS := sSeq (s__law_meeting_right_6) (s__law_meeting_right_7)
@[irreducible] def F__law_meeting_right : List W → Ev.Heap → R := fnOf 1 8 s__law_meeting_right
theorem sc__law_meeting_right : FnScope ["_law_pool", "_law_one", "_law_found", "_law_at", "_law_far", "_law_rest", "_law_n", "_law_k"] ["_law_pool"] (defScope (top 32)) := ⟨rfl, rfl, rfl, by decide +kernel, rfl, by decide +kernel, by decide +kernel⟩
theorem b__law_meeting_right (G : Gs w K mg) (D_Chain___init__ : MdOk P w K mg base (nm K) 5 (He.ma K (He.ga K "Chain") "__init__") "__init__" "Chain.__init__" (inClass (top 23) 0) ["self", "fault"] F_Chain___init__) (D__law_listed : MdOk P w K mg base (nm K) 3 (He.ga K "_law_listed") "_law_listed" "_law_listed" (top 30) ["_law_chain"] F__law_listed) (f : Addr) : BodyOk P w K mg base (nm K) ["_law_pool", "_law_one", "_law_found", "_law_at", "_law_far", "_law_rest", "_law_n", "_law_k"] "_law_meeting_right" (defScope (top 32)) (defBody (top 32)) f 6 s__law_meeting_right := by
  intro cdv A outer st H E hr hg
  have hu := hu_of hr
  have hU := hr.units
  have hV : _ + 65 < cLine := Nat.lt_of_le_of_lt (Nat.add_le_add_left (by omega : 65 ≤ 16 * 6 + 200) _) hr.un
  have tk := takes_of (X := cxOf (L2.CX P w) P w K mg base ["_law_pool", "_law_one", "_law_found", "_law_at", "_law_far", "_law_rest", "_law_n", "_law_k"] "_law_meeting_right" (defScope (top 32)) f cdv A outer st H E) (E := E) rfl rfl rfl rfl
  have nd := (sc__law_meeting_right).nd
  have R_Chain___init__ : 6 ≤ 6 := by decide
  have R__law_listed : 3 ≤ 6 := by decide
  unfold s__law_meeting_right
  exact s_cons (s_for (passes_of rfl) rfl (i_seq (rv 0)) (tg_one nd rfl (Or.inl rfl)) (s_cons (s_set nd rfl (Or.inr rfl) (r_callf (ks := []) G.m__law_listed D__law_listed bd__law_listed_1 (hr.mono R__law_listed) hg tk (ra_cons (r_make (ks := []) G.mk_Chain D_Chain___init__ bd_Chain___init___2 G.m_Chain (hr.mono R_Chain___init__) hg tk (ra_cons (rv 1) (ra_nil)) (rk_nil)) (ra_nil)) (rk_nil)))
    (s_cons (s_if (t_cmp (ok_gt2) (r_callB (okb_len) rfl G.n_len bt_len (ra_cons (r_lc rfl nd (i_enum rfl G.n_enumerate (ra_cons (rv 2) (ra_nil))) (own := [("_law_n", 6), ("_law_k", 7)]) (blk_ok (by kernel_rfl)) own_two (fun _ _ _ _ _ => tg_two rfl (tg_one nd rfl (Or.inl rfl)) (tg_one nd rfl (Or.inl rfl))) (fun _ _ _ _ _ => c_one (t_cmp (ok_inI (ic G) hV) (rv 7) (r_sl (rv 2) (ro_none) (ro_some (Wx := fun c d _ H1 => E c d H1) (rv 6))) (by rfl))) (fun _ _ _ _ _ => rv 6)) (ra_nil))) (r_int) (nomark _)) (s_one (s_ret (r_bl))) (s_nil))
    (s_one (s_for (passes_of rfl) rfl (i_enum rfl G.n_enumerate (ra_cons (rv 2) (ra_nil))) (tg_two rfl (tg_one nd rfl (Or.inl rfl)) (tg_one nd rfl (Or.inl rfl))) (s_cons (s_set nd rfl (Or.inl rfl) (r_callf (ks := []) G.m__law_listed D__law_listed bd__law_listed_1 (hr.mono R__law_listed) hg tk (ra_cons (r_make (ks := []) G.mk_Chain D_Chain___init__ bd_Chain___init___2 G.m_Chain (hr.mono R_Chain___init__) hg tk (ra_cons (rv 4) (ra_nil)) (rk_nil)) (ra_nil)) (rk_nil)))
    (s_one (s_if (t_cmp (ok_neL (ic G) hU) (r_sl (rv 5) (ro_none) (ro_some (Wx := fun c d _ H1 => E c d H1) (r_bin (ok_sub) (r_callB (okb_len) rfl G.n_len bt_len (ra_cons (rv 2) (ra_nil))) (rv 3)))) (r_sl (rv 2) (ro_some (Wx := fun c d _ H1 => E c d H1) (rv 3)) (ro_none)) (nomark _)) (s_one (s_ret (r_bl))) (s_nil)))))))))
    (s_one (s_ret (r_bl)))
theorem D__law_meeting_right (G : Gs w K mg) : MdOk P w K mg base (nm K) 7 (He.ga K "_law_meeting_right") "_law_meeting_right" "_law_meeting_right" (top 32) ["_law_pool"] F__law_meeting_right := by
  unfold F__law_meeting_right
  exact .mk' G.d__law_meeting_right sc__law_meeting_right (b__law_meeting_right G (D_Chain___init__ G) (D__law_listed G) _)
/-! contexts -/
def s_contexts : SGn := gSq (gPl (sExpr (eCall (fun xs ys h => F_need_fault (pick [(false, 0)] xs ys) h) 1 0 (aCons (eVar 0) (aNil)) (aNil)))) (gSq (gPl (sAsg (eAttr (atP 0 F_Fault_context) 9 (eVar 0)) (gNm 1))) (gSq (gWh (bVal (eBin wIsnt (eVar 1) (eW .non))) (gSq (gYi (eVar 1)) (gSq (gPl (sAsg (eAttr (atP 0 F_Fault_context) 9 (eVar 1)) (gNm 1))) (gNil))) 100000) (gNil)))
@[irreducible] def F_contexts : Con → List W → Ev.Heap → GD := gFn 1 2 s_contexts
theorem sc_contexts : GScope ["fault", "here"] ["fault"] (defScope (top 25)) := ⟨rfl, rfl, rfl, by decide +kernel, rfl, by decide +kernel, by decide +kernel⟩
theorem b_contexts (G : Gs w K mg) (D_Fault_context : GtOk P w K mg base (nm K) 1 (gad K (pad K (He.ga K "Fault") "context")) F_Fault_context) (D_need_fault : MdOk P w K mg base (nm K) 1 (He.ga K "need_fault") "need_fault" "need_fault" (top 16) ["value"] F_need_fault) (f : Addr) : GBodyOk P w K mg base (nm K) ["fault", "here"] "contexts" (defScope (top 25)) (defBody (top 25)) f 2 s_contexts := by
  intro cdv A outer st H E pn hr hg
  have hu := hu_of hr
  have hU := hr.units
  have hV : _ + 65 < cLine := Nat.lt_of_le_of_lt (Nat.add_le_add_left (by omega : 65 ≤ 16 * 2 + 200) _) hr.un
  have tk : Takes (gcxOf P w K mg base ["fault", "here"] "contexts" (defScope (top 25)) f cdv A outer st H E pn) (fun cls d _ H1 => E cls d H1) := takes_gcx
  have nd := (sc_contexts).nd
  have R_Fault_context : 2 ≤ 2 := by decide
  have R_need_fault : 1 ≤ 2 := by decide
  unfold s_contexts
  exact eg_cons (eg_pl (s_expr (r_callf (ks := []) G.m_need_fault D_need_fault bd_need_fault_1 (hr.mono R_need_fault) hg tk (ra_cons (rv 0) (ra_nil)) (rk_nil))))
    (eg_cons (eg_pl (s_set nd rfl (Or.inl rfl) (r_attr (at_prop G.cl_Fault G.pr_Fault_context D_Fault_context (hr.mono R_Fault_context)) rfl (rv 0) rfl)))
    (eg_cons (eg_wh 100000 owns_gcx (t_cmp (ok_isnt) (rv 1) (r_non) (nomark _)) (eg_cons (eg_yi (rv 1))
    (eg_cons (eg_pl (s_set nd rfl (Or.inl rfl) (r_attr (at_prop G.cl_Fault G.pr_Fault_context D_Fault_context (hr.mono R_Fault_context)) rfl (rv 1) rfl)))
    (eg_nil))))
    (eg_nil)))
theorem D_contexts (G : Gs w K mg) : GdOk P w K mg base (nm K) 3 (He.ga K "contexts") "contexts" "contexts" (top 25) ["fault"] F_contexts := by
  unfold F_contexts
  exact .mk' G.d_contexts sc_contexts (by decide +kernel) (b_contexts G (D_Fault_context G) (D_need_fault G) _)
/-! links -/
def s_links : SGn := gSq (gPl (sAsg (eCall (fun xs ys h => F_chain_parts (pick [(false, 0)] xs ys) h) 1 0 (aCons (eVar 0) (aNil)) (aNil)) (gTp [gNm 1, gNm 2, gNm 3]))) (gSq (gFor (.two 4 5) (iZipSW (aCons (eVar 2) (aCons (eSl (eVar 1) (oSome (eW (.int 1))) (oNone)) (aNil)))) (gSq (gYi (eTup (aCons (eVar 4) (aCons (eVar 5) (aNil))))) (gNil))) (gNil))
@[irreducible] def F_links : Con → List W → Ev.Heap → GD := gFn 1 6 s_links
theorem sc_links : GScope ["fault", "faults", "ways", "repeat", "way", "other"] ["fault"] (defScope (top 24)) := ⟨rfl, rfl, rfl, by decide +kernel, rfl, by decide +kernel, by decide +kernel⟩
theorem b_links (G : Gs w K mg) (D_chain_parts : MdOk P w K mg base (nm K) 4 (He.ga K "chain_parts") "chain_parts" "chain_parts" (top 22) ["fault"] F_chain_parts) (f : Addr) : GBodyOk P w K mg base (nm K) ["fault", "faults", "ways", "repeat", "way", "other"] "links" (defScope (top 24)) (defBody (top 24)) f 4 s_links := by
  intro cdv A outer st H E pn hr hg
  have hu := hu_of hr
  have hU := hr.units
  have hV : _ + 65 < cLine := Nat.lt_of_le_of_lt (Nat.add_le_add_left (by omega : 65 ≤ 16 * 4 + 200) _) hr.un
  have tk : Takes (gcxOf P w K mg base ["fault", "faults", "ways", "repeat", "way", "other"] "links" (defScope (top 24)) f cdv A outer st H E pn) (fun cls d _ H1 => E cls d H1) := takes_gcx
  have nd := (sc_links).nd
  have R_chain_parts : 4 ≤ 4 := by decide
  unfold s_links
  exact eg_cons (eg_pl (s_asg (r_callf (ks := []) G.m_chain_parts D_chain_parts bd_chain_parts_1 (hr.mono R_chain_parts) hg tk (ra_cons (rv 0) (ra_nil)) (rk_nil)) (g_tup rfl (gs_cons (g_name nd rfl (Or.inl rfl)) (gs_cons (g_name nd rfl (Or.inl rfl)) (gs_cons (g_name nd rfl (Or.inl rfl)) (gs_nil) (gnm_ok _)) (gnm_ok _)) (gnm_ok _)) ⟨(gnm_ok _), ⟨(gnm_ok _), ⟨(gnm_ok _), True.intro⟩⟩⟩ rfl) (gtp_ok ⟨(gnm_ok _), ⟨(gnm_ok _), ⟨(gnm_ok _), True.intro⟩⟩⟩)))
    (eg_cons (eg_for owns_gcx rfl (i_zipS rfl G.n_zip (ra_cons (rv 2) (ra_cons (r_sl (rv 1) (ro_some (Wx := fun c d _ H1 => E c d H1) (r_int)) (ro_none)) (ra_nil)))) (tg_two rfl (tg_one nd rfl (Or.inl rfl)) (tg_one nd rfl (Or.inl rfl))) (eg_cons (eg_yi (r_tup (ra_cons (rv 4) (ra_cons (rv 5) (ra_nil)))))
    (eg_nil)))
    (eg_nil))
theorem D_links (G : Gs w K mg) : GdOk P w K mg base (nm K) 5 (He.ga K "links") "links" "links" (top 24) ["fault"] F_links := by
  unfold F_links
  exact .mk' G.d_links sc_links (by decide +kernel) (b_links G (D_chain_parts G) _)
/-! _law_plain_right -/
def s__law_plain_right_1 : SS := sAsg (eCall (mkObj 2 F_Chain___init__ (pick [(false, 0), (false, 1)])) 1 0 (aCons (eVar 1) (aNil)) (aNil)) (gNm 2)
def s__law_plain_right_2 : SS := sIf (bOr (bVal (eBin (wNeL idF) (eCall (fun xs ys h => F__law_listed (pick [(false, 0)] xs ys) h) 1 0 (aCons (eVar 2) (aNil)) (aNil)) (eBin wAdd (eLst (aCons (eVar 1) (aNil))) (eListG (gCall (fun c xs ys h => F_contexts c (pick [(true, 0)] xs ys) h) 0 1 aNil (aCons (eVar 1) (aNil))))))) (bVal (eBin wIsnt (eAttr (atP 2 F_Chain_repeat) 26 (eVar 2)) (eW .non)))) (sRet (eW (.bl false))) (sNil)
def s__law_plain_right_3 : SS := sIf (bOr (bVal (eBin (wNeL idF) (eCompG [3, 4] (.two 3 4) (gCall (fun c xs ys h => F_links c (pick [(true, 0)] xs ys) h) 0 1 aNil (aCons (eVar 1) (aNil))) (bVal (eBin wNe (eVar 3) (eW (.str "context")))) (eVar 3)) (eLst (aNil)))) (bVal (eBin (wInI idF) (eVar 1) (eListG (gCall (fun c xs ys h => F_contexts c (pick [(false, 0)] xs ys) h) 1 0 (aCons (eVar 1) (aNil)) (aNil)))))) (sRet (eW (.bl false))) (sNil)
def s__law_plain_right_4 : SS := sFor (.one 1) (iSeq (eVar 0)) (sSeq (s__law_plain_right_1) (sSeq (s__law_plain_right_2) (s__law_plain_right_3)))
def s__law_plain_right_5 : SS := sRet (eW (.bl true))
def s__law_plain_right : SS := sSeq (s__law_plain_right_4) (s__law_plain_right_5)
@[irreducible] def F__law_plain_right : List W → Ev.Heap → R := fnOf 1 5 s__law_plain_right
theorem sc__law_plain_right : FnScope ["_law_pool", "_law_one", "_law_chain", "_law_way", "_law_far"] ["_law_pool"] (defScope (top 31)) := ⟨rfl, rfl, rfl, by decide +kernel, rfl, by decide +kernel, by decide +kernel⟩
theorem b__law_plain_right (G : Gs w K mg) (D_Chain___init__ : MdOk P w K mg base (nm K) 5 (He.ma K (He.ga K "Chain") "__init__") "__init__" "Chain.__init__" (inClass (top 23) 0) ["self", "fault"] F_Chain___init__) (D_Chain_repeat : GtOk P w K mg base (nm K) 1 (gad K (pad K (He.ga K "Chain") "repeat")) F_Chain_repeat) (D__law_listed : MdOk P w K mg base (nm K) 3 (He.ga K "_law_listed") "_law_listed" "_law_listed" (top 30) ["_law_chain"] F__law_listed) (D_contexts : GdOk P w K mg base (nm K) 3 (He.ga K "contexts") "contexts" "contexts" (top 25) ["fault"] F_contexts) (D_links : GdOk P w K mg base (nm K) 5 (He.ga K "links") "links" "links" (top 24) ["fault"] F_links) (f : Addr) : BodyOk P w K mg base (nm K) ["_law_pool", "_law_one", "_law_chain", "_law_way", "_law_far"] "_law_plain_right" (defScope (top 31)) (defBody (top 31)) f 8 s__law_plain_right := by
  intro cdv A outer st H E hr hg
  have hu := hu_of hr
  have hU := hr.units
  have hV : _ + 65 < cLine := Nat.lt_of_le_of_lt (Nat.add_le_add_left (by omega : 65 ≤ 16 * 8 + 200) _) hr.un
  have tk := takes_of (X := cxOf (L2.CX P w) P w K mg base ["_law_pool", "_law_one", "_law_chain", "_law_way", "_law_far"] "_law_plain_right" (defScope (top 31)) f cdv A outer st H E) (E := E) rfl rfl rfl rfl
  have nd := (sc__law_plain_right).nd
  have R_Chain___init__ : 6 ≤ 8 := by decide
  have R_Chain_repeat : 2 ≤ 8 := by decide
  have R__law_listed : 3 ≤ 8 := by decide
  have R_contexts : 6 ≤ 8 := by decide
  have R_links : 8 ≤ 8 := by decide
  unfold s__law_plain_right
  exact s_cons (s_for (passes_of rfl) rfl (i_seq (rv 0)) (tg_one nd rfl (Or.inl rfl)) (s_cons (s_set nd rfl (Or.inl rfl) (r_make (ks := []) G.mk_Chain D_Chain___init__ bd_Chain___init___2 G.m_Chain (hr.mono R_Chain___init__) hg tk (ra_cons (rv 1) (ra_nil)) (rk_nil)))
    (s_cons (s_if (t_w (w_or (t_cmp (ok_neL (ic G) hU) (r_callf (ks := []) G.m__law_listed D__law_listed bd__law_listed_1 (hr.mono R__law_listed) hg tk (ra_cons (rv 2) (ra_nil)) (rk_nil)) (r_bin (ok_add) (r_lst (ra_cons (rv 1) (ra_nil))) (r_listG (pge_call0 (ks := ["fault"]) G.m_contexts D_contexts bd_contexts_0_fault (hr.mono (by decide)) (fun _ _ h1 h2 => (pick_len (by decide) h1 h2).trans rfl) (rk_cons (rv 1) (rk_nil))) (hr.mono R_contexts) hg rfl G.n_list bt_list)) (nomark _)) (w_or1 (t_cmp (ok_isnt) (r_attr (at_prop G.cl_Chain G.pr_Chain_repeat D_Chain_repeat (hr.mono R_Chain_repeat)) rfl (rv 2) rfl) (r_non) (nomark _))))) (s_one (s_ret (r_bl))) (s_nil))
    (s_one (s_if (t_w (w_or (t_cmp (ok_neL (ic G) hU) (r_compG nd (pge_call0 (ks := ["fault"]) G.m_links D_links bd_links_0_fault (hr.mono (by decide)) (fun _ _ h1 h2 => (pick_len (by decide) h1 h2).trans rfl) (rk_cons (rv 1) (rk_nil))) (hr.mono R_links) hg (own := [("_law_way", 3), ("_law_far", 4)]) (blk_ok (by kernel_rfl)) (by decide +kernel) own_two (fun _ _ _ _ _ => tg_two rfl (tg_one nd rfl (Or.inl rfl)) (tg_one nd rfl (Or.inl rfl))) (fun _ _ _ _ _ => c_one (t_cmp (ok_ne hU) (rv 3) (r_str) (nomark _))) (fun _ _ _ _ _ => rv 3)) (r_lst (ra_nil)) (nomark _)) (w_or1 (t_cmp (ok_inI (ic G) hV) (rv 1) (r_listG (pge_call (ks := []) G.m_contexts D_contexts bd_contexts_1 (hr.mono (by decide)) (fun _ _ h1 h2 => (pick_len (by decide) h1 h2).trans rfl) (ra_cons (rv 1) (ra_nil)) (rk_nil)) (hr.mono R_contexts) hg rfl G.n_list bt_list) (by rfl))))) (s_one (s_ret (r_bl))) (s_nil))))))
    (s_one (s_ret (r_bl)))
theorem D__law_plain_right (G : Gs w K mg) : MdOk P w K mg base (nm K) 9 (He.ga K "_law_plain_right") "_law_plain_right" "_law_plain_right" (top 31) ["_law_pool"] F__law_plain_right := by
  unfold F__law_plain_right
  exact .mk' G.d__law_plain_right sc__law_plain_right (b__law_plain_right G (D_Chain___init__ G) (D_Chain_repeat G) (D__law_listed G) (D_contexts G) (D_links G) _)
/-! with_cause -/
def s_with_cause : SS := sSeq (sExpr (eCall (fun xs ys h => F_need_fault (pick [(false, 0)] xs ys) h) 1 0 (aCons (eVar 0) (aNil)) (aNil))) (sSeq (sExpr (eCall (fun xs ys h => F_need_fault_or_none (pick [(false, 0)] xs ys) h) 1 0 (aCons (eVar 1) (aNil)) (aNil))) (sSeq (sAsg (eVar 1) (gAttr (okF [0]) 4 (eVar 0))) (sAsg (eW (.bl true)) (gAttr (okF [0]) 5 (eVar 0)))))
@[irreducible] def F_with_cause : List W → Ev.Heap → R := fnOf 2 2 s_with_cause
theorem sc_with_cause : FnScope ["fault", "source"] ["fault", "source"] (defScope (top 19)) := ⟨rfl, rfl, rfl, by decide +kernel, rfl, by decide +kernel, by decide +kernel⟩
theorem b_with_cause (G : Gs w K mg) (D_need_fault : MdOk P w K mg base (nm K) 1 (He.ga K "need_fault") "need_fault" "need_fault" (top 16) ["value"] F_need_fault) (D_need_fault_or_none : MdOk P w K mg base (nm K) 2 (He.ga K "need_fault_or_none") "need_fault_or_none" "need_fault_or_none" (top 17) ["value"] F_need_fault_or_none) (f : Addr) : BodyOk P w K mg base (nm K) ["fault", "source"] "with_cause" (defScope (top 19)) (defBody (top 19)) f 2 s_with_cause := by
  intro cdv A outer st H E hr hg
  have hu := hu_of hr
  have hU := hr.units
  have hV : _ + 65 < cLine := Nat.lt_of_le_of_lt (Nat.add_le_add_left (by omega : 65 ≤ 16 * 2 + 200) _) hr.un
  have tk := takes_of (X := cxOf (L2.CX P w) P w K mg base ["fault", "source"] "with_cause" (defScope (top 19)) f cdv A outer st H E) (E := E) rfl rfl rfl rfl
  have nd := (sc_with_cause).nd
  have R_need_fault : 1 ≤ 2 := by decide
  have R_need_fault_or_none : 2 ≤ 2 := by decide
  unfold s_with_cause
  exact s_cons (s_expr (r_callf (ks := []) G.m_need_fault D_need_fault bd_need_fault_1 (hr.mono R_need_fault) hg tk (ra_cons (rv 0) (ra_nil)) (rk_nil)))
    (s_cons (s_expr (r_callf (ks := []) G.m_need_fault_or_none D_need_fault_or_none bd_need_fault_or_none_1 (hr.mono R_need_fault_or_none) hg tk (ra_cons (rv 1) (ra_nil)) (rk_nil)))
    (s_cons (s_asg (rv 1) (g_attr (set_ok1 G.cl_Fault G.na_Fault_s1_cause) rfl (rv 0)) (gattr_ok _ _ _))
    (s_one (s_asg (r_bl) (g_attr (set_ok1 G.cl_Fault G.na_Fault_s1_hides) rfl (rv 0)) (gattr_ok _ _ _)))))
theorem D_with_cause (G : Gs w K mg) : MdOk P w K mg base (nm K) 3 (He.ga K "with_cause") "with_cause" "with_cause" (top 19) ["fault", "source"] F_with_cause := by
  unfold F_with_cause
  exact .mk' G.d_with_cause sc_with_cause (b_with_cause G (D_need_fault G) (D_need_fault_or_none G) _)
/-! law -/
def s_law_1 : SS := sAsg (eBin wAdd (eW (.int 1)) (eCall (fun xs ys h => F__law_next (pick [(false, 0), (false, 1)] xs ys) h) 2 0 (aCons (eVar 1) (aCons (eW (.int 8)) (aNil))) (aNil))) (gNm 3)
def s_law_2 : SS := sAsg (eCall (fun xs ys h => F__law_handled (pick [(false, 0), (false, 1), (false, 2)] xs ys) h) 3 0 (aCons (eVar 1) (aCons (eVar 3) (aCons (eCall (fun xs ys h => F__law_next (pick [(false, 0), (false, 1)] xs ys) h) 2 0 (aCons (eVar 1) (aCons (eW (.int 6)) (aNil))) (aNil)) (aNil)))) (aNil)) (gNm 4)
def s_law_3 : SS := sIf (bOr (bNot (bTru (eCall (fun xs ys h => F__law_plain_right (pick [(false, 0)] xs ys) h) 1 0 (aCons (eVar 4) (aNil)) (aNil)))) (bNot (bTru (eCall (fun xs ys h => F__law_meeting_right (pick [(false, 0)] xs ys) h) 1 0 (aCons (eVar 4) (aNil)) (aNil))))) (sRet (eW (.bl false))) (sNil)
def s_law_4 : SS := sPar2 5 6 (aCons (eBin wIx (eVar 4) (eCall (fun xs ys h => F__law_next (pick [(false, 0), (false, 1)] xs ys) h) 2 0 (aCons (eVar 1) (aCons (eVar 3) (aNil))) (aNil))) (aCons (eBin wIx (eVar 4) (eCall (fun xs ys h => F__law_next (pick [(false, 0), (false, 1)] xs ys) h) 2 0 (aCons (eVar 1) (aCons (eVar 3) (aNil))) (aNil))) (aNil)))
def s_law_5 : SS := sExpr (eCall (fun xs ys h => F_with_cause (pick [(false, 0), (false, 1)] xs ys) h) 2 0 (aCons (eVar 5) (aCons (eVar 6) (aNil))) (aNil))
def s_law_6 : SS := sIf (bOr (bVal (eBin (wNeL idF) (eSl (eAttr (atP 2 F_Chain_ways) 25 (eCall (mkObj 2 F_Chain___init__ (pick [(false, 0), (false, 1)])) 1 0 (aCons (eVar 5) (aNil)) (aNil))) (oNone) (oSome (eW (.int 1)))) (eIf (bVal (eBin (wEqN idF) (eVar 5) (eVar 6))) (eTup (aNil)) (eTup (aCons (eW (.str "cause")) (aNil)))))) (bNot (bTru (eCall (fun xs ys h => F__law_meeting_right (pick [(false, 0)] xs ys) h) 1 0 (aCons (eVar 4) (aNil)) (aNil))))) (sRet (eW (.bl false))) (sNil)
def s_law_7 : SS := sIf (bVal (eBin (wNeL idF) (eBin (wEqN idF) (eAttr (atP 2 F_Chain_repeat) 26 (eCall (mkObj 2 F_Chain___init__ (pick [(false, 0), (false, 1)])) 1 0 (aCons (eVar 5) (aNil)) (aNil))) (eVar 5)) (eBin (wInI idF) (eVar 5) (eCall (fun xs ys h => F__law_listed (pick [(false, 0)] xs ys) h) 1 0 (aCons (eCall (mkObj 2 F_Chain___init__ (pick [(false, 0), (false, 1)])) 1 0 (aCons (eVar 6) (aNil)) (aNil)) (aNil)) (aNil))))) (sRet (eW (.bl false))) (sNil)
def s_law_8 : SS := sExpr (eCall (fun xs ys h => F_with_cause (pick [(false, 0), (false, 1)] xs ys) h) 2 0 (aCons (eVar 5) (aCons (eW .non) (aNil))) (aNil))
def s_law_9 : SS := sIf (bOr (bVal (eBin wNe (eB (bLenC 2 (fun xs h => F_Chain___len__ (pick [(false, 0)] xs []) h)) (aCons (eCall (mkObj 2 F_Chain___init__ (pick [(false, 0), (false, 1)])) 1 0 (aCons (eVar 5) (aNil)) (aNil)) (aNil))) (eW (.int 1)))) (bOr (bVal (eBin wIsnt (eAttr (atP 2 F_Chain_repeat) 26 (eCall (mkObj 2 F_Chain___init__ (pick [(false, 0), (false, 1)])) 1 0 (aCons (eVar 5) (aNil)) (aNil))) (eW .non))) (bNot (bTru (eCall (fun xs ys h => F__law_meeting_right (pick [(false, 0)] xs ys) h) 1 0 (aCons (eVar 4) (aNil)) (aNil)))))) (sRet (eW (.bl false))) (sNil)
def s_law_10 : SS := sAsg (eCall (fun xs ys h => F__law_begun (pick [(false, 0)] xs ys) h) 1 0 (aCons (eVar 0) (aNil)) (aNil)) (gNm 1)
def s_law_11 : SS := sFor (.one 2) (iRange1 (aCons (eBin wAdd (eW (.int 3)) (eB bMin2 (aCons (eW (.int 5)) (aCons (eB bLen (aCons (eVar 0) (aNil))) (aNil))))) (aNil))) (sSeq (s_law_1) (sSeq (s_law_2) (sSeq (s_law_3) (sSeq (s_law_4) (sSeq (s_law_5) (sSeq (s_law_6) (sSeq (s_law_7) (sSeq (s_law_8) (s_law_9)))))))))
def s_law_12 : SS := sRet (eW (.bl true))
def s_law : SS := sSeq (s_law_10) (sSeq (s_law_11) (s_law_12))
@[irreducible] def F_law : List W → Ev.Heap → R := fnOf 1 7 s_law
theorem sc_law : FnScope ["_law_script", "_law_draw", "_law_turn", "_law_many", "_law_pool", "_law_one", "_law_far"] ["_law_script"] (defScope (top 33)) := ⟨rfl, rfl, rfl, by decide +kernel, rfl, by decide +kernel, by decide +kernel⟩
theorem b_law (G : Gs w K mg) (D_Chain___init__ : MdOk P w K mg base (nm K) 5 (He.ma K (He.ga K "Chain") "__init__") "__init__" "Chain.__init__" (inClass (top 23) 0) ["self", "fault"] F_Chain___init__) (D_Chain___len__ : MdOk P w K mg base (nm K) 1 (He.ma K (He.ga K "Chain") "__len__") "__len__" "Chain.__len__" (inClass (top 23) 3) ["self"] F_Chain___len__) (D_Chain_repeat : GtOk P w K mg base (nm K) 1 (gad K (pad K (He.ga K "Chain") "repeat")) F_Chain_repeat) (D_Chain_ways : GtOk P w K mg base (nm K) 1 (gad K (pad K (He.ga K "Chain") "ways")) F_Chain_ways) (D__law_begun : MdOk P w K mg base (nm K) 1 (He.ga K "_law_begun") "_law_begun" "_law_begun" (top 27) ["_law_script"] F__law_begun) (D__law_handled : MdOk P w K mg base (nm K) 5 (He.ga K "_law_handled") "_law_handled" "_law_handled" (top 29) ["_law_draw", "_law_many", "_law_again"] F__law_handled) (D__law_listed : MdOk P w K mg base (nm K) 3 (He.ga K "_law_listed") "_law_listed" "_law_listed" (top 30) ["_law_chain"] F__law_listed) (D__law_meeting_right : MdOk P w K mg base (nm K) 7 (He.ga K "_law_meeting_right") "_law_meeting_right" "_law_meeting_right" (top 32) ["_law_pool"] F__law_meeting_right) (D__law_next : MdOk P w K mg base (nm K) 1 (He.ga K "_law_next") "_law_next" "_law_next" (top 28) ["_law_draw", "_law_below"] F__law_next) (D__law_plain_right : MdOk P w K mg base (nm K) 9 (He.ga K "_law_plain_right") "_law_plain_right" "_law_plain_right" (top 31) ["_law_pool"] F__law_plain_right) (D_with_cause : MdOk P w K mg base (nm K) 3 (He.ga K "with_cause") "with_cause" "with_cause" (top 19) ["fault", "source"] F_with_cause) (f : Addr) : BodyOk P w K mg base (nm K) ["_law_script", "_law_draw", "_law_turn", "_law_many", "_law_pool", "_law_one", "_law_far"] "law" (defScope (top 33)) (defBody (top 33)) f 9 s_law := by
  intro cdv A outer st H E hr hg
  have hu := hu_of hr
  have hU := hr.units
  have hV : _ + 65 < cLine := Nat.lt_of_le_of_lt (Nat.add_le_add_left (by omega : 65 ≤ 16 * 9 + 200) _) hr.un
  have tk := takes_of (X := cxOf (L2.CX P w) P w K mg base ["_law_script", "_law_draw", "_law_turn", "_law_many", "_law_pool", "_law_one", "_law_far"] "law" (defScope (top 33)) f cdv A outer st H E) (E := E) rfl rfl rfl rfl
  have nd := (sc_law).nd
  have R_Chain___init__ : 6 ≤ 9 := by decide
  have R_Chain___len__ : 2 ≤ 9 := by decide
  have R_Chain_repeat : 2 ≤ 9 := by decide
  have R_Chain_ways : 2 ≤ 9 := by decide
  have R__law_begun : 1 ≤ 9 := by decide
  have R__law_handled : 5 ≤ 9 := by decide
  have R__law_listed : 3 ≤ 9 := by decide
  have R__law_meeting_right : 7 ≤ 9 := by decide
  have R__law_next : 1 ≤ 9 := by decide
  have R__law_plain_right : 9 ≤ 9 := by decide
  have R_with_cause : 3 ≤ 9 := by decide
  unfold s_law
  exact s_cons (s_set nd rfl (Or.inl rfl) (r_callf (ks := []) G.m__law_begun D__law_begun bd__law_begun_1 (hr.mono R__law_begun) hg tk (ra_cons (rv 0) (ra_nil)) (rk_nil)))
    (s_cons (s_for (passes_of rfl) rfl (i_range1 rfl G.n_range (ra_cons (r_bin (ok_add) (r_int) (r_callB (okb_min2 rfl) rfl G.n_min bt_min (ra_cons (r_int) (ra_cons (r_callB (okb_len) rfl G.n_len bt_len (ra_cons (rv 0) (ra_nil))) (ra_nil))))) (ra_nil))) (tg_one nd rfl (Or.inl rfl)) (s_cons (s_set nd rfl (Or.inl rfl) (r_bin (ok_add) (r_int) (r_callf (ks := []) G.m__law_next D__law_next bd__law_next_2 (hr.mono R__law_next) hg tk (ra_cons (rv 1) (ra_cons (r_int) (ra_nil))) (rk_nil))))
    (s_cons (s_set nd rfl (Or.inl rfl) (r_callf (ks := []) G.m__law_handled D__law_handled bd__law_handled_3 (hr.mono R__law_handled) hg tk (ra_cons (rv 1) (ra_cons (rv 3) (ra_cons (r_callf (ks := []) G.m__law_next D__law_next bd__law_next_2 (hr.mono R__law_next) hg tk (ra_cons (rv 1) (ra_cons (r_int) (ra_nil))) (rk_nil)) (ra_nil)))) (rk_nil)))
    (s_cons (s_if (t_w (w_or (t_not (t_tru (r_callf (ks := []) G.m__law_plain_right D__law_plain_right bd__law_plain_right_1 (hr.mono R__law_plain_right) hg tk (ra_cons (rv 4) (ra_nil)) (rk_nil)))) (w_or1 (t_not (t_tru (r_callf (ks := []) G.m__law_meeting_right D__law_meeting_right bd__law_meeting_right_1 (hr.mono R__law_meeting_right) hg tk (ra_cons (rv 4) (ra_nil)) (rk_nil))))))) (s_one (s_ret (r_bl))) (s_nil))
    (s_cons (s_par2 rfl nd rfl rfl (by decide) rfl rfl (ra_cons (rix hu (rv 4) (r_callf (ks := []) G.m__law_next D__law_next bd__law_next_2 (hr.mono R__law_next) hg tk (ra_cons (rv 1) (ra_cons (rv 3) (ra_nil))) (rk_nil))) (ra_cons (rix hu (rv 4) (r_callf (ks := []) G.m__law_next D__law_next bd__law_next_2 (hr.mono R__law_next) hg tk (ra_cons (rv 1) (ra_cons (rv 3) (ra_nil))) (rk_nil))) (ra_nil))) rfl)
    (s_cons (s_expr (r_callf (ks := []) G.m_with_cause D_with_cause bd_with_cause_2 (hr.mono R_with_cause) hg tk (ra_cons (rv 5) (ra_cons (rv 6) (ra_nil))) (rk_nil)))
    (s_cons (s_if (t_w (w_or (t_cmp (ok_neL (ic G) hU) (r_sl (r_attr (at_prop G.cl_Chain G.pr_Chain_ways D_Chain_ways (hr.mono R_Chain_ways)) rfl (r_make (ks := []) G.mk_Chain D_Chain___init__ bd_Chain___init___2 G.m_Chain (hr.mono R_Chain___init__) hg tk (ra_cons (rv 5) (ra_nil)) (rk_nil)) rfl) (ro_none) (ro_some (Wx := fun c d _ H1 => E c d H1) (r_int))) (r_if (t_cmp (ok_eqN (icN G) hU) (rv 5) (rv 6) (nomark _)) (r_tup (ra_nil)) (r_tup (ra_cons (r_str) (ra_nil)))) (nomark _)) (w_or1 (t_not (t_tru (r_callf (ks := []) G.m__law_meeting_right D__law_meeting_right bd__law_meeting_right_1 (hr.mono R__law_meeting_right) hg tk (ra_cons (rv 4) (ra_nil)) (rk_nil))))))) (s_one (s_ret (r_bl))) (s_nil))
    (s_cons (s_if (t_cmp (ok_neL (ic G) hU) (r_cmp (ok_eqN (icN G) hU) (r_attr (at_prop G.cl_Chain G.pr_Chain_repeat D_Chain_repeat (hr.mono R_Chain_repeat)) rfl (r_make (ks := []) G.mk_Chain D_Chain___init__ bd_Chain___init___2 G.m_Chain (hr.mono R_Chain___init__) hg tk (ra_cons (rv 5) (ra_nil)) (rk_nil)) rfl) (rv 5) (nomark _)) (r_cmp (ok_inI (ic G) hV) (rv 5) (r_callf (ks := []) G.m__law_listed D__law_listed bd__law_listed_1 (hr.mono R__law_listed) hg tk (ra_cons (r_make (ks := []) G.mk_Chain D_Chain___init__ bd_Chain___init___2 G.m_Chain (hr.mono R_Chain___init__) hg tk (ra_cons (rv 6) (ra_nil)) (rk_nil)) (ra_nil)) (rk_nil)) (by rfl)) (nomark _)) (s_one (s_ret (r_bl))) (s_nil))
    (s_cons (s_expr (r_callf (ks := []) G.m_with_cause D_with_cause bd_with_cause_2 (hr.mono R_with_cause) hg tk (ra_cons (rv 5) (ra_cons (r_non) (ra_nil))) (rk_nil)))
    (s_one (s_if (t_w (w_or (t_cmp (ok_ne hU) (r_callB (okb_lenC G.me_Chain___len__ D_Chain___len__ bd_Chain___len___1 (hr.mono R_Chain___len__) hg) rfl G.n_len bt_len (ra_cons (r_make (ks := []) G.mk_Chain D_Chain___init__ bd_Chain___init___2 G.m_Chain (hr.mono R_Chain___init__) hg tk (ra_cons (rv 5) (ra_nil)) (rk_nil)) (ra_nil))) (r_int) (nomark _)) (w_or (t_cmp (ok_isnt) (r_attr (at_prop G.cl_Chain G.pr_Chain_repeat D_Chain_repeat (hr.mono R_Chain_repeat)) rfl (r_make (ks := []) G.mk_Chain D_Chain___init__ bd_Chain___init___2 G.m_Chain (hr.mono R_Chain___init__) hg tk (ra_cons (rv 5) (ra_nil)) (rk_nil)) rfl) (r_non) (nomark _)) (w_or1 (t_not (t_tru (r_callf (ks := []) G.m__law_meeting_right D__law_meeting_right bd__law_meeting_right_1 (hr.mono R__law_meeting_right) hg tk (ra_cons (rv 4) (ra_nil)) (rk_nil)))))))) (s_one (s_ret (r_bl))) (s_nil))))))))))))
    (s_one (s_ret (r_bl))))
theorem D_law (G : Gs w K mg) : MdOk P w K mg base (nm K) 10 (He.ga K "law") "law" "law" (top 33) ["_law_script"] F_law := by
  unfold F_law
  exact .mk' G.d_law sc_law (b_law G (D_Chain___init__ G) (D_Chain___len__ G) (D_Chain_repeat G) (D_Chain_ways G) (D__law_begun G) (D__law_handled G) (D__law_listed G) (D__law_meeting_right G) (D__law_next G) (D__law_plain_right G) (D_with_cause G) _)
end
end K11
set_option maxRecDepth 100000
namespace K11
open PySem L2 Ev EvF
theorem next_eq : F__law_next = nxt := by rw [nxt_eq]; unfold F__law_next F_next; rfl
theorem begun_eq : F__law_begun = F_begun "mixed" 32452843 41 998244353 104723 2305843009213693951 := by unfold F__law_begun F_begun; rfl
theorem e_letter : K11.F_is_letter = EvF.F_is_letter := by unfold K11.F_is_letter EvF.F_is_letter; rfl
theorem e_kind : K11.F_is_kind = EvF.F_is_kind := by unfold K11.F_is_kind EvF.F_is_kind K11.s_is_kind EvF.s_is_kind; rw [e_letter]
theorem e_label : K11.F_is_label = EvF.F_is_label := by unfold K11.F_is_label EvF.F_is_label; rfl
theorem e_init : K11.F_Fault___init__ = EvF.F_Fault___init__ := by unfold K11.F_Fault___init__ EvF.F_Fault___init__ K11.s_Fault___init__ EvF.s_Fault___init__; rw [e_kind, e_label]
theorem e_x : K11.F_Fault_context = EvF.F_Fault_context := by unfold K11.F_Fault_context EvF.F_Fault_context; rfl
theorem e_c : K11.F_Fault_cause = EvF.F_Fault_cause := by unfold K11.F_Fault_cause EvF.F_Fault_cause; rfl
theorem e_h : K11.F_Fault_hides = EvF.F_Fault_hides := by unfold K11.F_Fault_hides EvF.F_Fault_hides; rfl
theorem e_need : K11.F_need_fault = EvF.F_need_fault := by unfold K11.F_need_fault EvF.F_need_fault; rfl
theorem e_need0 : K11.F_need_fault_or_none = EvF.F_need_fault_or_none := by unfold K11.F_need_fault_or_none EvF.F_need_fault_or_none K11.s_need_fault_or_none EvF.s_need_fault_or_none; rw [e_need]
theorem e_raise : K11.F_raise_under = EvF.F_raise_under := by unfold K11.F_raise_under EvF.F_raise_under K11.s_raise_under EvF.s_raise_under; rw [e_need, e_need0]
theorem e_with : K11.F_with_cause = EvF.F_with_cause := by unfold K11.F_with_cause EvF.F_with_cause K11.s_with_cause EvF.s_with_cause; rw [e_need, e_need0]
theorem e_link : K11.F_next_link = EvF.F_next_link := by unfold K11.F_next_link EvF.F_next_link K11.s_next_link EvF.s_next_link; rw [e_c, e_x, e_h]
theorem e_parts : K11.F_chain_parts = EvF.F_chain_parts := by
  unfold K11.F_chain_parts EvF.F_chain_parts K11.s_chain_parts EvF.s_chain_parts K11.s_chain_parts_6 EvF.s_chain_parts_6 K11.s_chain_parts_7 EvF.s_chain_parts_7 K11.s_chain_parts_8 EvF.s_chain_parts_8 K11.s_chain_parts_5 EvF.s_chain_parts_5
  rw [e_need, e_link]
  rfl
theorem e_ch : K11.F_Chain___init__ = EvF.F_Chain___init__ := by unfold K11.F_Chain___init__ EvF.F_Chain___init__ K11.s_Chain___init__ EvF.s_Chain___init__; rw [e_parts]
theorem e_ways : K11.F_Chain_ways = EvF.F_Chain_ways := by unfold K11.F_Chain_ways EvF.F_Chain_ways; rfl
theorem e_rep : K11.F_Chain_repeat = EvF.F_Chain_repeat := by unfold K11.F_Chain_repeat EvF.F_Chain_repeat; rfl
theorem e_len : K11.F_Chain___len__ = EvF.F_Chain___len__ := by unfold K11.F_Chain___len__ EvF.F_Chain___len__; rfl
theorem e_get : K11.F_Chain___getitem__ = EvF.F_Chain___getitem__ := by unfold K11.F_Chain___getitem__ EvF.F_Chain___getitem__; rfl
theorem e_ctxs : K11.F_contexts = EvF.F_contexts := by unfold K11.F_contexts EvF.F_contexts K11.s_contexts EvF.s_contexts; rw [e_need, e_x]
theorem e_links : K11.F_links = EvF.F_links := by unfold K11.F_links EvF.F_links K11.s_links EvF.s_links; rw [e_parts]
section
variable {h h0 : Ev.Heap} {n d g kf : Nat} {Q : W → Ev.Heap → Prop} {E : Nat → List (Nat × W) → Ev.Heap → Prop} {fs : List Nat} {G : Nat → Flt} {P : Po}
theorem sq {a b : SS} {ls : Ls} : (sSeq a b ls h).to P ↔ (a ls h).to { nx := fun l h => (b l h).to P, rt := P.rt, bk := P.bk, ct := P.ct, ex := P.ex } := by simp
theorem nxt2_to {b : Int} (D : Drw "mixed" h d g) (hb : 0 < b) (hb2 : b < 1073741824) (q : ∀ (i : Nat) h', (i : Int) < b → Drw "mixed" h' d g → Kp [d, g] h h' → Q (.int (i : Int)) h') : (nxt [.ref d, .int b] h).to Q E :=
  nxt_to D hb hb2 fun r h' r0 r1 D' K' => by
    obtain ⟨i, rfl⟩ : ∃ i : Nat, r = i := ⟨r.toNat, by omega⟩
    exact q i h' r1 D' K'
theorem cauhid {m y : Nat} (x : Nat) : (raised G n m y x).cau = (G x).cau ∧ (raised G n m y x).hid = (G x).hid := by
  unfold raised upG
  by_cases a : x = n
  · subst a
    by_cases b : x = y
    · subst b; simp
    · simp [b]
  · by_cases b : x = y
    · subst b; simp [a]
    · simp [a, b]
/-! the state -/
structure Sk (h0 h : Ev.Heap) (d g kf : Nat) (fs : List Nat) (G : Nat → Flt) : Prop where
  pool : Pool h fs G
  ends : ∀ x ∈ fs, ∃ k, Ends G x k
  D : Drw "mixed" h d g
  ef : h.get kf = some (.lst (fs.map W.ref))
  l8 : fs.length ≤ 8
  new : ∀ x ∈ fs, h0.nx ≤ x
  kn : h0.nx ≤ kf
  lf : kf < h.nx
  nf : kf ∉ fs
  ld : d < h0.nx ∧ g < h0.nx
  K : Kp [d, g] h0 h
def Pln (fs : List Nat) (G : Nat → Flt) : Prop := ∀ x ∈ fs, (G x).cau = none ∧ (G x).hid = false
theorem Sk.df (S : Sk h0 h d g kf fs G) : ∀ x ∈ fs, x ∉ [d, g] := fun x m z => by
  have := S.new x m
  have := S.ld
  simp at z
  omega
theorem Sk.kp {h' : Ev.Heap} (S : Sk h0 h d g kf fs G) (K : Kp [] h h') : Sk h0 h' d g kf fs G :=
  ⟨S.pool.kp K fun _ _ => by simp, S.ends, EvF.Drw.keep S.D K (by simp) (by simp), K.get S.ef S.lf (by simp), S.l8, S.new, S.kn, Nat.lt_of_lt_of_le S.lf K.1, S.nf, S.ld, S.K.trans (K.mono (by simp))⟩
theorem Sk.dr {h' : Ev.Heap} (S : Sk h0 h d g kf fs G) (D : Drw "mixed" h' d g) (K : Kp [d, g] h h') : Sk h0 h' d g kf fs G := by
  have := S.ld
  have := S.kn
  exact ⟨S.pool.kp K S.df, S.ends, D, K.get S.ef S.lf (by simp; omega), S.l8, S.new, S.kn, Nat.lt_of_lt_of_le S.lf K.1, S.nf, S.ld, S.K.trans K⟩
/-- the links have changed -/
theorem Sk.up {h' : Ev.Heap} {G' : Nat → Flt} (S : Sk h0 h d g kf fs G) (K : Kp fs h h') (p : Pool h' fs G') (en : ∀ x ∈ fs, ∃ k, Ends G' x k) : Sk h0 h' d g kf fs G' := by
  have := S.ld
  have := S.kn
  have := S.K.1
  have nd : d ∉ fs := fun z => by have := S.new d z; omega
  have ng : g ∉ fs := fun z => by have := S.new g z; omega
  refine ⟨p, en, EvF.Drw.keep S.D K nd ng, K.get S.ef S.lf S.nf, S.l8, S.new, S.kn, Nat.lt_of_lt_of_le S.lf K.1, S.nf, S.ld, ⟨Nat.le_trans S.K.1 K.1, fun j lj hj => ?_⟩⟩
  rw [K.2 j (by omega) fun z => by have := S.new j z; omega]
  exact S.K.2 j lj hj
theorem raiseS_to {m : Nat} (S : Sk h0 h d g kf fs G) (mn : n ∈ fs) (mm : m ∈ fs) (q : ∀ h' G', Sk h0 h' d g kf fs G' → (Pln fs G → Pln fs G') → Q .non h') : (EvF.F_raise_under [.ref n, .ref m] h).to Q E := by
  refine raise_to (o := some m) S.pool (by have := S.l8; omega) mn (fun _ e => by cases e; exact mm) S.ends (fun _ => q h G S id) fun hd y k h' e ne s K p => ?_
  cases e
  obtain ⟨j0, e0⟩ := S.ends _ mm
  have my := Stop.mem S.pool.ctx s mm
  refine q h' _ (S.up (K.mono (by intro x hx; simp at hx; rcases hx with rfl | rfl <;> assumption)) p fun x mx => ?_) fun pl x mx => ?_
  · obtain ⟨k, e⟩ := S.ends x mx
    exact raised_ends ne s e0 e
  · obtain ⟨h1, h2⟩ := cauhid (G := G) (n := n) (m := m) (y := y) x
    rw [h1, h2]
    exact pl x mx
theorem Ends.on {G G' : Nat → Flt} {fs : List Nat} (c : ∀ z ∈ fs, ∀ m, (G z).ctx = some m → m ∈ fs) (he : ∀ z ∈ fs, (G' z).ctx = (G z).ctx) : ∀ {x k : Nat}, x ∈ fs → EvF.Ends G x k → EvF.Ends G' x k
  | x, _, m, .nil e => .nil (by rw [he x m, e])
  | x, _, m, .cons e r => .cons (by rw [he x m, e]) (Ends.on c he (c x m _ e) r)
theorem Sk.add {h1 h2 : Ev.Heap} {f : Flt} (S : Sk h0 h1 d g kf fs G) (K : Kp [] h1 h2) (n2 : h1.nx < h2.nx) (F : FltAt h2 h1.nx f) (c1 : f.ctx = none) (c2 : f.cau = none) (hl : fs.length < 8) : Sk h0 (h2.put kf (.lst ((fs ++ [h1.nx]).map W.ref))) d g kf (fs ++ [h1.nx]) (upG G h1.nx f) := by
  have hn : ∀ x ∈ fs, x ≠ h1.nx := fun x m => Nat.ne_of_lt (S.pool.at_ x m).2
  have p := S.pool.add K (fun _ _ => by simp) hn F n2 c1 c2
  have := S.lf
  have ld := S.ld
  have kn := S.kn
  have k1 := S.K.1
  have nf : kf ∉ fs ++ [h1.nx] := fun z => by
    rcases List.mem_append.mp z with z | z
    · exact S.nf z
    · simp at z; omega
  have K2 : Kp [kf] h1 (h2.put kf (.lst ((fs ++ [h1.nx]).map W.ref))) := (K.mono (by simp)).trans (Kp.put _ _ (by simp))
  refine ⟨p.kp (Kp.put _ _ (List.mem_singleton.mpr rfl)) (fun x m z => by simp at z; subst z; exact nf m), fun x m => ?_, EvF.Drw.keep S.D K2 (by simp; omega) (by simp; omega), Heap.put_same _ _ _, by simp; omega, fun x m => ?_, kn, ?_, nf, ld, ⟨Nat.le_trans k1 K2.1, fun j lj hj => ?_⟩⟩
  · rcases List.mem_append.mp m with m | m
    · obtain ⟨k, e⟩ := S.ends x m
      exact ⟨k, Ends.on S.pool.ctx (fun z mz => by rw [upG_ne (hn z mz)]) m e⟩
    · obtain rfl := List.mem_singleton.mp m
      exact ⟨0, .nil (by rw [upG_same]; exact c1)⟩
  · rcases List.mem_append.mp m with m | m
    · exact S.new x m
    · obtain rfl := List.mem_singleton.mp m
      exact k1
  · have := K2.1; omega
  · rw [K2.2 j (by omega) (by simp; omega)]; exact S.K.2 j lj hj
theorem Pln.add {f : Flt} (pl : Pln fs G) (hn : ∀ x ∈ fs, x ≠ n) (c2 : f.cau = none) (c3 : f.hid = false) : Pln (fs ++ [n]) (upG G n f) := fun x m => by
  rcases List.mem_append.mp m with m | m
  · rw [upG_ne (hn x m)]; exact pl x m
  · obtain rfl := List.mem_singleton.mp m
    rw [upG_same]; exact ⟨c2, c3⟩
/-! the faults -/
theorem ixn_to' {k i : Nat} {xs : List Nat} {x : Nat} (e : h.get k = some (.lst (xs.map W.ref))) (hi : xs[i]? = some x) (q : Q (.ref x) h) : (wIx (.ref k) (.int (i : Int)) h).to Q E := ixn_to e (by simp [hi]) q
def lab (i : Nat) : Str := ("s" : Str) ++ Str.ofString (toString (i : Int))
theorem lab_ok : ((List.range 9).all fun i => decide ((Str.ofString (toString (i : Int))).length ≤ 10) && labelB (lab i).cps.toList) = true := by decide +kernel
theorem lab_at {i : Nat} (hi : i < 9) : labelB (lab i).cps.toList = true ∧ (Str.ofString (toString (i : Int))).length ≤ 10 := by
  have := List.all_eq_true.mp lab_ok i (List.mem_range.mpr hi)
  simp only [Bool.and_eq_true, decide_eq_true_eq] at this
  exact ⟨this.2, this.1⟩
structure JH (h0 : Ev.Heap) (d g kf many : Nat) (a1 a2 : Option W) (xs : List W) (ls : Ls) (h' : Ev.Heap) : Prop where
  of : ∃ (fs : List Nat) (G : Nat → Flt) (a4 : Option W), Sk h0 h' d g kf fs G ∧ Pln fs G ∧ 0 < fs.length ∧ fs.length ≤ many ∧ xs = rangeW (fs.length : Int) (many : Int) ∧ ls = [some (.ref d), a1, a2, some (.ref kf), a4]
structure JG (h0 : Ev.Heap) (d g kf : Nat) (fs : List Nat) (a1 a2 : Option W) (xs : List W) (ls : Ls) (h' : Ev.Heap) : Prop where
  of : ∃ (G : Nat → Flt) (a4 : Option W), Sk h0 h' d g kf fs G ∧ Pln fs G ∧ ls = [some (.ref d), a1, a2, some (.ref kf), a4]
theorem handled_to {many again : Nat} (D : Drw "mixed" h d g) (m1 : 1 ≤ many) (m8 : many ≤ 8) (ag : again < 6) (q : ∀ h' kf fs G, Sk h h' d g kf fs G → Pln fs G → fs.length = many → Q (.ref kf) h') : (F__law_handled [.ref d, .int (many : Int), .int (again : Int)] h).to Q E := by
  have hz : sizeLine = 16777216 := sizeLine_eq
  unfold F__law_handled s__law_handled
  generalize hB : sSeq s__law_handled_4 (sSeq s__law_handled_5 s__law_handled_6) = B
  unfold s__law_handled_3
  rw [e_init]
  simp [hz]
  refine mk_to (l := "e") (by decide) (by decide +kernel) (by omega) fun h2 K2 n2 F2 => ?_
  have nx0 : h.nx ∈ [h.nx] := by simp
  have p0 : Pool (h2.new (.lst [.ref h.nx])) [h.nx] (fun _ => ⟨"Error", "e", 0, none, none, false⟩) := by
    refine Pool.kp (S := []) (h := h2) ⟨fun x mx => ?_, by simp, fun x _ m e => (by cases e), fun x _ m e => (by cases e)⟩ (Kp.new _ _ _) (by simp)
    simp at mx; subst mx; exact ⟨F2, n2⟩
  have ld := D.ld
  have lg := D.lg
  have S0 : Sk h (h2.new (.lst [.ref h.nx])) d g h2.nx [h.nx] (fun _ => ⟨"Error", "e", 0, none, none, false⟩) := by
    have K3 : Kp [] h (h2.new (.lst [.ref h.nx])) := K2.trans (Kp.new _ _ _)
    exact ⟨p0, fun x _ => ⟨0, .nil rfl⟩, EvF.Drw.keep D K3 (by simp) (by simp), Heap.new_same _ _, by simp, by simp, K2.1, by simp, by simp; omega, ⟨ld, lg⟩, K3.mono (by simp)⟩
  generalize h2.new (.lst [.ref h.nx]) = h3 at S0 ⊢
  generalize h2.nx = kf at S0 ⊢
  subst hB
  generalize hB : sSeq s__law_handled_5 s__law_handled_6 = B
  unfold s__law_handled_4
  generalize hC : sSeq s__law_handled_1 s__law_handled_2 = C
  simp
  refine ⟨_, _, ⟨rfl, rfl⟩, by simp [smallR]; omega, for_inv (JH h d g kf many (some (.int many)) (some (.int again))) _ _ _ ⟨[h.nx], _, none, S0, fun x _ => ⟨rfl, rfl⟩, by simp, by simpa using m1, rfl, rfl⟩ (fun x xs ls h4 J => ?_) fun ls h4 J => ?_⟩
  · obtain ⟨fs, G, a4, S, pl, l0, lm, exs, rfl⟩ := J
    subst hC
    have hlt : fs.length < many := by
      by_cases z : fs.length < many
      · exact z
      · have : fs.length = many := by omega
        rw [this, EvF.rangeW_nil] at exs
        cases exs
    rw [EvF.rangeW_cons hlt] at exs
    cases exs
    refine ⟨rfl, _, rfl, ?_⟩
    have lo := lab_at (i := fs.length) (by omega)
    have lg : ((fs.length : Int)).natAbs.log2 < 1920 := by
      by_cases z : fs.length = 0
      · rw [z]; decide
      · have := (Nat.log2_lt z).mpr (show fs.length < 2 ^ 4 by omega)
        simp; omega
    unfold s__law_handled_1 s__law_handled_2
    rw [e_init, e_raise, next_eq]
    simp [pick, wTyp, S.ef, -o_ix_int]
    refine ⟨by simpa using lg, Nat.le_trans (Nat.add_le_add (Nat.le_of_eq (show (("s" : Str)).length = 1 from rfl)) lo.2) (by rw [hz]; decide), ?_⟩
    refine mk_to (l := lab fs.length) (by decide) lo.1 (by omega) fun h5 K5 n5 F5 => ?_
    have hn : ∀ x ∈ fs, x ≠ h4.nx := fun x m => Nat.ne_of_lt (S.pool.at_ x m).2
    have S5 := S.add K5 n5 F5 rfl rfl (by omega)
    have pl5 := pl.add (n := h4.nx) (f := ⟨"Stop", lab fs.length, fs.length, none, none, false⟩) hn rfl rfl
    refine ⟨_, K5.get S.ef S.lf (by simp), by simp; omega, ?_⟩
    rw [show (fs.map W.ref ++ [W.ref h4.nx]) = (fs ++ [h4.nx]).map W.ref by simp]
    generalize h5.put kf (.lst ((fs ++ [h4.nx]).map W.ref)) = h6 at S5 ⊢
    have el : (fs ++ [h4.nx])[fs.length]? = some h4.nx := by simp
    refine ixn_to' S5.ef el ?_
    refine nxt2_to S5.D (by omega) (by omega) fun t h7 ht D7 K7 => ?_
    have S7 := S5.dr D7 K7
    obtain ⟨m, em⟩ : ∃ m, (fs ++ [h4.nx])[t]? = some m := ⟨_, List.getElem?_eq_getElem (by simp; omega)⟩
    refine ixn_to' S7.ef em ?_
    refine raiseS_to S7 (List.mem_of_getElem? el) (List.mem_of_getElem? em) fun h8 G8 S8 pl8 => ?_
    exact ⟨fs ++ [h4.nx], G8, _, S8, pl8 pl5, by simp, by simp; omega, by simp, rfl⟩
  · obtain ⟨fs, G, a4, S, pl, l0, lm, exs, rfl⟩ := J
    have hlt : fs.length = many := by
      by_cases z : fs.length < many
      · rw [EvF.rangeW_cons z] at exs; cases exs
      · omega
    refine ⟨rfl, ?_⟩
    subst hB
    unfold s__law_handled_5 s__law_handled_6
    generalize hC : sExpr _ = C
    simp
    refine ⟨by simp [smallR]; omega, for_inv (JG h d g kf fs (some (.int many)) (some (.int again))) _ _ _ ⟨G, _, S, pl, rfl⟩ (fun x xs ls h5 J => ?_) fun ls h5 J => ?_⟩
    · obtain ⟨G5, b4, S5, pl5, rfl⟩ := J
      refine ⟨rfl, _, rfl, ?_⟩
      subst hC
      rw [e_raise, next_eq]
      simp [pick, -o_ix_int]
      refine nxt2_to S5.D (by omega) (by omega) fun t h7 ht D7 K7 => ?_
      have S7 := S5.dr D7 K7
      obtain ⟨n, en⟩ : ∃ n, fs[t]? = some n := ⟨_, List.getElem?_eq_getElem (by omega)⟩
      refine ixn_to' S7.ef en ?_
      refine nxt2_to S7.D (by omega) (by omega) fun t2 h8 ht2 D8 K8 => ?_
      have S8 := S7.dr D8 K8
      obtain ⟨m, em⟩ : ∃ m, fs[t2]? = some m := ⟨_, List.getElem?_eq_getElem (by omega)⟩
      refine ixn_to' S8.ef em ?_
      refine raiseS_to S8 (List.mem_of_getElem? en) (List.mem_of_getElem? em) fun h9 G9 S9 pl9 => ?_
      exact ⟨G9, _, S9, pl9 pl5, rfl⟩
    · obtain ⟨G5, b4, S5, pl5, rfl⟩ := J
      exact ⟨rfl, _, rfl, q _ _ _ _ S5 pl5 hlt⟩
/-! a chain's list -/
theorem listed_to {k : Nat} {c : Ch} (a : ChAt h k c) (l : c.L.length ≤ 1000) (q : Q (.ref h.nx) (h.new (.lst (c.L.map W.ref)))) : (F__law_listed [.ref k] h).to Q E := by
  have hz : sizeLine = 16777216 := sizeLine_eq
  unfold F__law_listed s__law_listed
  rw [e_len, e_get]
  simp
  refine len_to a l ?_
  simp
  refine ⟨by simp [smallR]; omega, by simp [rangeW]; omega, comp_pure (fun _ => true) (fun w => match w with | .int i => .ref (c.L.getD i.toNat 0) | _ => .non) rfl _ (fun w mw => ?_) ?_⟩
  · simp only [rangeW, Int.sub_zero, Int.toNat_natCast, Int.zero_add, List.mem_map, List.mem_range] at mw
    obtain ⟨t, ht, rfl⟩ := mw
    refine ⟨_, rfl, ?_⟩
    have et : c.L[t]? = some c.L[t] := List.getElem?_eq_getElem ht
    simp [wipeL]
    refine get_to a l et ?_
    simp [List.getD, et]
  · rw [List.filter_eq_self.mpr fun _ _ => rfl]
    have : (rangeW 0 (c.L.length : Int)).map (fun w => match w with | .int i => W.ref (c.L.getD i.toNat 0) | _ => .non) = c.L.map W.ref := by
      unfold rangeW
      rw [List.map_map]
      apply List.ext_getElem?
      intro t
      by_cases ht : t < c.L.length
      · simp [ht, List.getD]
      · simp [List.getElem?_eq_none (Nat.le_of_not_lt ht), ht]
    rw [this]
    exact q
/-- the chain's list -/
theorem chl_to {n : Nat} (p : Pool h fs G) (hs : fs.length ≤ 1000) (m : n ∈ fs) {a0 : List W → Ev.Heap → Prop} (q : ∀ h' k, Kp [] h h' → h.nx ≤ k → k < h'.nx → h'.get k = some (.lst ((chainOf G n).L.map W.ref)) → Q (.ref k) h') : ((mkObj 2 EvF.F_Chain___init__ (pick [(false, 0), (false, 1)]) [.ref n] [] h).to (fun w h1 => (F__law_listed [w] h1).to Q E) E) := by
  refine mkch_to p hs m fun h1 K1 n1 c1 => ?_
  have ok := chainOf_ok p m
  have ll := nodup_le ok.nd ok.sub
  refine listed_to c1 (by omega) (q _ _ (K1.trans (Kp.new _ _ _)) K1.1 (by simp) (Heap.new_same _ _))
/-! chains that meet -/
theorem idin_to {x ks : Nat} {l : List Nat} (p : Pool h fs G) (m : x ∈ fs) (hl : ∀ z ∈ l, z ∈ fs) (e : h.get ks = some (.lst (l.map W.ref))) : idIn idF h (.ref x) (.ref ks) = some (decide (x ∈ l)) := by
  have aa : h.get x = _ := (p.at_ x m).1
  simp only [idIn, aa, seqW, lstAt, e, idF, refs_pool p hl]
  simp
theorem nodup_pre : ∀ {l : List Nat} {i x : Nat}, l.Nodup → l[i]? = some x → x ∉ l.take i := fun {l i x} nd e z => by
  obtain ⟨j, hj, ej⟩ := List.mem_iff_getElem.mp z
  rw [List.length_take] at hj
  have e2 : l[j]? = some x := by rw [List.getElem?_eq_getElem (by omega), ← ej]; simp
  have := (List.getElem?_inj (by omega) nd).mp (e2.trans e.symm)
  omega
structure JD (h : Ev.Heap) (l : List Nat) (xs acc : List W) (h' : Ev.Heap) : Prop where
  of : ∃ i, xs = enumFrom i ((l.drop i).map W.ref) ∧ acc = [] ∧ Kp [] h h'
theorem nodup_to {kf : Nat} {l : List Nat} {ls : Ls} (p : Pool h fs G) (nd : l.Nodup) (hl : ∀ z ∈ l, z ∈ fs) (l1 : l.length ≤ 1000) (e : h.get kf = some (.lst (l.map W.ref))) (lk : kf < h.nx) (e0 : ls.length = 8) (e2 : ls[2]? = some (some (.ref kf))) (q : ∀ h', Kp [] h h' → P.nx ls h') : (s__law_meeting_right_4 ls h).to P := by
  obtain ⟨a0, a1, a2, a3, a4, a5, a6, a7, rfl⟩ : ∃ a0 a1 a2 a3 a4 a5 a6 a7, ls = [a0, a1, a2, a3, a4, a5, a6, a7] := by
    match ls, e0 with
    | [a0, a1, a2, a3, a4, a5, a6, a7], _ => exact ⟨_, _, _, _, _, _, _, _, rfl⟩
  simp at e2
  subst e2
  have hz : sizeLine = 16777216 := sizeLine_eq
  unfold s__law_meeting_right_4
  simp [lstAt, e]
  refine ⟨by rw [enumFrom_len]; simp; omega, Rs.to_mono (Q := fun ys h' => ys = [] ∧ Kp [] h h') ?_ (fun ys h' z => ?_) fun _ _ _ z => z⟩
  · have := comp_inv (t := .two 6 7) (g := [(kf, l.map W.ref)]) (cond := bVal (eBin (wInI idF) (eVar 7) (eSl (eVar 2) oNone (oSome (eVar 6))))) (elt := eVar 6) (ls := wipeL [a0, a1, some (W.ref kf), a3, a4, a5, a6, a7] [6, 7]) (Q := fun ys h' => ys = [] ∧ Kp [] h h') (JD h l) (enumFrom 0 (l.map W.ref)) [] h ⟨0, by simp, rfl, Kp.refl _ _⟩ (fun x xs acc h1 J => ?_) (fun acc h1 J => ?_)
    · simpa using this
    · obtain ⟨i, exs, rfl, K⟩ := J
      have e1 := K.get e lk (by simp)
      have hi : i < l.length := by
        by_cases z : i < l.length
        · exact z
        · rw [List.drop_eq_nil_of_le (by omega)] at exs; cases exs
      rw [List.drop_eq_getElem_cons hi] at exs
      cases exs
      have p1 := p.kp K (by simp)
      refine ⟨by simp [gOk, lstAt, e1, W.eqbs_refl], _, rfl, ?_⟩
      simp [wipeL, e1, lstAt]
      have eo : oSome (eVar 6) [a0, a1, some (W.ref kf), a3, a4, a5, some (W.int (i : Int)), some (W.ref l[i])] h1 = some (some (i : Int), h1) := rfl
      rw [eo]
      refine ⟨_, e1, .inl ⟨?_, i + 1, by simp, rfl, K.trans (Kp.new _ _ _)⟩⟩
      have ec : wCut (l.map W.ref) none (some (i : Int)) = (l.take i).map W.ref := by
        simp [wCut, HT.sIx]
        rw [if_neg (by omega)]
        simp [Int.toNat_natCast]
        try omega
      rw [ec]
      have p2 := p1.kp (Kp.new [] h1 (.lst ((l.take i).map W.ref))) (by simp)
      rw [idin_to (h := h1.new (.lst ((l.take i).map W.ref))) p2 (hl _ (List.getElem_mem hi)) (fun z mz => hl z (List.mem_of_mem_take mz)) (Heap.new_same _ _)]
      have := nodup_pre nd (List.getElem?_eq_getElem hi)
      simp [orO, this]
    · obtain ⟨i, exs, rfl, K⟩ := J
      exact ⟨by simp [gOk, lstAt, K.get e lk (by simp), W.eqbs_refl], rfl, K⟩
  · obtain ⟨rfl, K⟩ := z
    exact .inl ⟨rfl, q _ (K.trans (Kp.new _ _ _))⟩
end
end K11
set_option maxRecDepth 100000
namespace K11
open PySem L2 Ev EvF
section
variable {h h0 : Ev.Heap} {n d g kf : Nat} {Q : W → Ev.Heap → Prop} {E : Nat → List (Nat × W) → Ev.Heap → Prop} {fs : List Nat} {G : Nat → Flt} {P : Po}
theorem flat_refs {l : List Nat} : ∀ x ∈ l.map W.ref, flatW x = true := fun x m => by
  obtain ⟨y, _, rfl⟩ := List.mem_map.mp m
  rfl
theorem cut_pre {l : List Nat} {i : Nat} : wCut (l.map W.ref) none (some (i : Int)) = (l.take i).map W.ref := by
  simp [wCut, HT.sIx]
  rw [if_neg (by omega)]
  omega
theorem cut_suf {l : List Nat} {i : Nat} (hi : i ≤ l.length) : wCut (l.map W.ref) (some (i : Int)) none = (l.drop i).map W.ref := by
  simp [wCut, HT.sIx]
  rw [if_neg (by omega)]
  rw [show min i l.length = i by omega, List.take_of_length_le (by simp)]
theorem s2_to {kr k2 i : Nat} {l r : List Nat} {a0 a1 a4 a6 a7 : Option W} (er : h.get kr = some (.lst (r.map W.ref))) (e2 : h.get k2 = some (.lst (l.map W.ref))) (l2 : k2 < h.nx) (hi : i ≤ l.length) (l1 : l.length ≤ 1000) (et : r.take (l.length - i) = l.drop i)
    (q : ∀ h', Kp [] h h' → P.nx [a0, a1, some (.ref k2), some (.int (i : Int)), a4, some (.ref kr), a6, a7] h') : (s__law_meeting_right_2 [a0, a1, some (.ref k2), some (.int (i : Int)), a4, some (.ref kr), a6, a7] h).to P := by
  have hz : sizeLine = 16777216 := sizeLine_eq
  unfold s__law_meeting_right_2
  have ef : eBin wSub (eB bLen (aCons (eVar 2) (aNil))) (eVar 3) [a0, a1, some (.ref k2), some (.int (i : Int)), a4, some (.ref kr), a6, a7] h = .ok (.int ((l.length - i : Nat) : Int)) h := by
    refine ok_of ?_
    simp [e2, hz]
    omega
  have eo : oSome (eBin wSub (eB bLen (aCons (eVar 2) (aNil))) (eVar 3)) [a0, a1, some (.ref k2), some (.int (i : Int)), a4, some (.ref kr), a6, a7] h = some (some ((l.length - i : Nat) : Int), h) := by
    simp only [oSome, ef]
  have e3 : (h.new (.lst ((l.drop i).map W.ref))).get k2 = some (.lst (l.map W.ref)) := (Heap.new_ne (Nat.ne_of_lt l2)).trans e2
  simp [lstAt, er, eo]
  have eo2 : ∀ h1, oSome (eVar 3) [a0, a1, some (.ref k2), some (.int (i : Int)), a4, some (.ref kr), a6, a7] h1 = some (some (i : Int), h1) := fun _ => rfl
  rw [eo2, cut_pre, et]
  refine ⟨_, e3, ?_⟩
  rw [cut_suf hi]
  have g1 : ((h.new (.lst ((l.drop i).map W.ref))).new (.lst ((l.drop i).map W.ref))).get h.nx = some (.lst ((l.drop i).map W.ref)) := (Heap.new_ne (by simp)).trans (Heap.new_same _ _)
  exact neL_same g1 (Heap.new_same _ _) flat_refs (.inl ⟨rfl, q _ ((Kp.new _ _ _).trans (Kp.new _ _ _))⟩)
structure JI (h : Ev.Heap) (k2 : Nat) (l : List Nat) (a0 a1 a6 a7 : Option W) (xs : List W) (ls : Ls) (h' : Ev.Heap) : Prop where
  of : ∃ (i : Nat) (a3 a4 a5 : Option W), xs = enumFrom i ((l.drop i).map W.ref) ∧ i ≤ l.length ∧ Kp [] h h' ∧ ls = [a0, a1, some (.ref k2), a3, a4, a5, a6, a7]
theorem s5_to {k2 : Nat} {a0 a1 a3 a4 a5 a6 a7 : Option W} (p : Pool h fs G) (hs : fs.length ≤ 1000) (m : n ∈ fs) (e2 : h.get k2 = some (.lst ((chainOf G n).L.map W.ref))) (l2 : k2 < h.nx)
    (q : ∀ h' a3 a4 a5, Kp [] h h' → P.nx [a0, a1, some (.ref k2), a3, a4, a5, a6, a7] h') : (s__law_meeting_right_5 [a0, a1, some (.ref k2), a3, a4, a5, a6, a7] h).to P := by
  have ok := chainOf_ok p m
  have ll := nodup_le ok.nd ok.sub
  have re := fun i y => rest_eq (i := i) (y := y) p hs m
  have sub := ok.sub
  generalize (chainOf G n).L = l at e2 ll re sub ⊢
  unfold s__law_meeting_right_5
  generalize hB : sSeq s__law_meeting_right_1 s__law_meeting_right_2 = B
  simp [lstAt, e2]
  refine for_inv (JI h k2 l a0 a1 a6 a7) _ _ _ ⟨0, _, _, _, by simp, by omega, Kp.refl _ _, rfl⟩ (fun x xs ls h1 J => ?_) fun ls h1 J => ?_
  · obtain ⟨i, b3, b4, b5, exs, il, K, rfl⟩ := J
    have e3 := K.get e2 l2 (by simp)
    have hi : i < l.length := by
      by_cases z : i < l.length
      · exact z
      · rw [List.drop_eq_nil_of_le (by omega)] at exs; cases exs
    rw [List.drop_eq_getElem_cons hi] at exs
    cases exs
    have p1 := p.kp K (by simp)
    refine ⟨by simp [gOk, lstAt, e3, W.eqbs_refl], _, rfl, ?_⟩
    subst hB
    have my := sub _ (List.getElem_mem hi)
    rw [sq]
    unfold s__law_meeting_right_1
    rw [e_ch]
    simp [pick]
    refine chl_to (a0 := fun _ _ => True) p1 hs my fun h2 kr K2 k1 k2' e4 => ?_
    refine s2_to e4 (K2.get e3 (Nat.lt_of_lt_of_le l2 K.1) (by simp)) (Nat.lt_of_lt_of_le l2 (Nat.le_trans K.1 K2.1)) il (by omega) (re i _ (List.getElem?_eq_getElem hi)) fun h3 K3 => ?_
    exact ⟨i + 1, _, _, _, by simp, by omega, (K.trans K2).trans K3, rfl⟩
  · obtain ⟨i, b3, b4, b5, exs, il, K, rfl⟩ := J
    exact ⟨by simp [gOk, lstAt, K.get e2 l2 (by simp), W.eqbs_refl], q _ _ _ _ K⟩
structure JM (h : Ev.Heap) (kf : Nat) (fs : List Nat) (xs : List W) (ls : Ls) (h' : Ev.Heap) : Prop where
  of : ∃ a1 a2 a3 a4 a5 a6 a7, (∀ x ∈ xs, ∃ n ∈ fs, x = W.ref n) ∧ Kp [] h h' ∧ ls = [some (.ref kf), a1, a2, a3, a4, a5, a6, a7]
theorem meeting_to (p : Pool h fs G) (hs : fs.length ≤ 1000) (ef : h.get kf = some (.lst (fs.map W.ref))) (lf : kf < h.nx) (q : ∀ h', Kp [] h h' → Q (.bl true) h') : (F__law_meeting_right [.ref kf] h).to Q E := by
  unfold F__law_meeting_right s__law_meeting_right s__law_meeting_right_6 s__law_meeting_right_7
  generalize hB : sSeq s__law_meeting_right_3 (sSeq s__law_meeting_right_4 s__law_meeting_right_5) = B
  simp [lstAt, ef]
  refine for_inv (JM h kf fs) _ _ _ ⟨_, _, _, _, _, _, _, fun x m => by obtain ⟨y, my, rfl⟩ := List.mem_map.mp m; exact ⟨y, my, rfl⟩, Kp.refl _ _, rfl⟩ (fun x xs ls h1 J => ?_) fun ls h1 J => ?_
  · obtain ⟨a1, a2, a3, a4, a5, a6, a7, hx, K, rfl⟩ := J
    obtain ⟨n, mn, rfl⟩ := hx x (by simp)
    have p1 := p.kp K (by simp)
    refine ⟨by simp [gOk, lstAt, K.get ef lf (by simp), W.eqbs_refl], _, rfl, ?_⟩
    subst hB
    rw [sq]
    unfold s__law_meeting_right_3
    rw [e_ch]
    simp only [List.set_cons_succ, List.set_cons_zero]
    generalize hB : sSeq s__law_meeting_right_4 s__law_meeting_right_5 = B
    simp [pick]
    refine chl_to (a0 := fun _ _ => True) p1 hs mn fun h2 k2 K2 k1 k2' e2 => ?_
    have ok := chainOf_ok p1 mn
    have ll := nodup_le ok.nd ok.sub
    have p2 := p1.kp K2 (by simp)
    subst hB
    rw [sq]
    refine nodup_to p2 ok.nd ok.sub (by omega) e2 k2' rfl rfl fun h3 K3 => ?_
    refine s5_to (p2.kp K3 (by simp)) hs mn (K3.get e2 k2' (by simp)) (Nat.lt_of_lt_of_le k2' K3.1) fun h4 b3 b4 b5 K4 => ?_
    exact ⟨_, _, _, _, _, _, _, fun x m => hx x (by simp [m]), ((K.trans K2).trans K3).trans K4, rfl⟩
  · obtain ⟨a1, a2, a3, a4, a5, a6, a7, hx, K, rfl⟩ := J
    exact ⟨by simp [gOk, lstAt, K.get ef lf (by simp), W.eqbs_refl], q _ K⟩
end
end K11
set_option maxRecDepth 100000
namespace K11
open PySem L2 Ev EvF
theorem Ctxs.nd {G : Nat → Flt} {fs : List Nat} (c : ∀ n ∈ fs, ∀ m, (G n).ctx = some m → m ∈ fs) : ∀ {n k : Nat} {l : List Nat}, n ∈ fs → EvF.Ends G n k → Ctxs G (G n).ctx l → (n :: l).Nodup
  | n, _, l, mn, .nil a, h => by
    rw [a] at h
    cases h
    simp
  | n, _, l, mn, .cons (m := m) (k := k) a r, h => by
    have mem := Ctxs.mem c mn (.cons a r) h
    rw [a] at h
    cases h with
    | cons h2 =>
      refine List.nodup_cons.mpr ⟨fun z => ?_, Ctxs.nd c (c n mn m a) r h2⟩
      obtain ⟨_, j, hj, ej⟩ := mem n z
      have := Ends.det ej (.cons a r)
      omega
theorem bok_of {r : Rb} {b : Bool} {h0 : Ev.Heap} (h : r.to (fun v h => v = b ∧ h = h0) fun _ _ _ => False) : r = .ok b h0 := by
  cases r with
  | ok l h' => obtain ⟨rfl, rfl⟩ := h; rfl
  | _ => exact h.elim
theorem pk1 {w : W} : pick [(false, 0)] [w] [] = [w] := rfl
theorem fold_refs : ∀ (l : List Nat) (ws : List W), l.foldl (fun ws m => ws ++ [W.ref m]) ws = ws ++ l.map W.ref
  | [], ws => by simp
  | a :: l, ws => by simp [fold_refs l]
theorem fold_id : ∀ (l : List W) (ws : List W), l.foldl (fun ws _ => ws) ws = ws
  | [], ws => rfl
  | a :: l, ws => fold_id l ws
section
variable {h h0 : Ev.Heap} {n d g kf : Nat} {Q : W → Ev.Heap → Prop} {E : Nat → List (Nat × W) → Ev.Heap → Prop} {fs : List Nat} {G : Nat → Flt} {P : Po}
theorem ctxl_eq {l : List Nat} (p : Pool h fs G) (m : n ∈ fs) (r : Ctxs G (G n).ctx l) (hl : ∀ z ∈ l, z ∈ fs) (h9 : l.length ≤ 1000) : EvF.F_contexts conL [.ref n] h = .ok ⟨l.length, l.map W.ref⟩ h := by
  rw [ctxs_eq (f := fun ws m => ws ++ [W.ref m]) (p.at_ n m).1 r (fun z mz => (p.at_ z (hl z mz)).1) (fun z _ ws => rfl) h9, fold_refs]
  rfl
theorem el1_eq {l : List Nat} {a0 a2 a3 a4 : Option W} (p : Pool h fs G) (m : n ∈ fs) (r : Ctxs G (G n).ctx l) (hl : ∀ z ∈ l, z ∈ fs) (h9 : l.length ≤ 1000) :
    eListG (gCall (fun c xs ys h => K11.F_contexts c (pick [(true, 0)] xs ys) h) 0 1 aNil (aCons (eVar 1) (aNil))) [a0, some (.ref n), a2, a3, a4] h = .ok (.ref h.nx) (h.new (.lst (l.map W.ref))) := by
  have e0 : aCons (eVar 1) (aNil) [a0, some (.ref n), a2, a3, a4] h = .ok [.ref n] h := rfl
  have e1 : aNil [a0, some (.ref n), a2, a3, a4] h = .ok [] h := rfl
  unfold eListG gCall
  simp only [e1, e0, List.length_singleton, List.length_nil, and_self, if_true]
  rw [show pick [(true, 0)] [] [W.ref n] = [W.ref n] from rfl, e_ctxs, ctxl_eq p m r hl h9]
theorem el2_eq {l : List Nat} {a0 a2 a3 a4 : Option W} (p : Pool h fs G) (m : n ∈ fs) (r : Ctxs G (G n).ctx l) (hl : ∀ z ∈ l, z ∈ fs) (h9 : l.length ≤ 1000) :
    eListG (gCall (fun c xs ys h => K11.F_contexts c (pick [(false, 0)] xs ys) h) 1 0 (aCons (eVar 1) (aNil)) (aNil)) [a0, some (.ref n), a2, a3, a4] h = .ok (.ref h.nx) (h.new (.lst (l.map W.ref))) := by
  have e0 : aCons (eVar 1) (aNil) [a0, some (.ref n), a2, a3, a4] h = .ok [.ref n] h := rfl
  unfold eListG gCall
  rw [e0]
  simp only [aNil, List.length_singleton, List.length_nil, and_self, if_true]
  rw [show pick [(false, 0)] [W.ref n] [] = [W.ref n] from rfl, e_ctxs, ctxl_eq p m r hl h9]
theorem lk_eq {a0 a2 a3 a4 : Option W} (p : Pool h fs G) (hs : fs.length ≤ 1000) (m : n ∈ fs) (hw : ∀ a ∈ (chainOf G n).W, a = ("context" : Str)) :
    ∃ h' k, Kp [] h h' ∧ h.nx ≤ k ∧ k < h'.nx ∧ h'.get k = some (.lst []) ∧ eCompG [3, 4] (.two 3 4) (gCall (fun c xs ys h => K11.F_links c (pick [(true, 0)] xs ys) h) 0 1 aNil (aCons (eVar 1) (aNil))) (bVal (eBin wNe (eVar 3) (eW (.str "context")))) (eVar 3) [a0, some (.ref n), a2, a3, a4] h = .ok (.ref k) h' := by
  have e0 : aCons (eVar 1) (aNil) [a0, some (.ref n), a2, a3, a4] h = .ok [.ref n] h := rfl
  obtain ⟨h1, K1, z⟩ := links_eq p hs m
  have hc : ∀ x ∈ prs (chainOf G n).W (chainOf G n).L.tail, ∀ us, conC (.two 3 4) (bVal (eBin wNe (eVar 3) (eW (.str "context")))) (eVar 3) (wipeL [a0, some (.ref n), a2, a3, a4] [3, 4]) us x h1 = some (us, h1) := by
    intro x mx us
    obtain ⟨a, y, ma, rfl⟩ : ∃ a y, a ∈ (chainOf G n).W ∧ x = .tup [.str a, .ref y] := by
      unfold prs at mx
      obtain ⟨i, hi, e⟩ := List.mem_iff_getElem.mp mx
      rw [List.getElem_zipWith] at e
      exact ⟨_, _, List.getElem_mem _, e.symm⟩
    obtain rfl := hw a ma
    have et : (bVal (eBin wNe (eVar 3) (eW (.str ("context" : Str)))) [a0, some (W.ref n), a2, some (.str ("context" : Str)), some (.ref y)] h1) = .ok false h1 := by
      refine bok_of ?_
      simp
      exact eqO_same (w := 7) (n := 0) (d := .str "context") rfl rfl ((DOk.str (s := "context") (by decide +kernel) (by decide +kernel)).mono (by decide +kernel) (Nat.le_refl _)) (by decide)
    simp only [conC, wipeL, bindTg, List.set_cons_succ, List.set_cons_zero]
    rw [et]
  obtain ⟨k, ek⟩ := z (fun ws _ => ws) _ hc
  refine ⟨h1.new (.lst []), h1.nx, K1.trans (Kp.new _ _ _), K1.1, by simp, Heap.new_same _ _, ?_⟩
  have e1 : aNil [a0, some (.ref n), a2, a3, a4] h = .ok [] h := rfl
  unfold eCompG gCall
  simp only [e1, e0, List.length_singleton, List.length_nil, and_self, if_true]
  rw [show pick [(true, 0)] [] [W.ref n] = [W.ref n] from rfl, e_links, ek, fold_id]
structure JP (h : Ev.Heap) (kf : Nat) (fs : List Nat) (xs : List W) (ls : Ls) (h' : Ev.Heap) : Prop where
  of : ∃ a1 a2 a3 a4, (∀ x ∈ xs, ∃ n ∈ fs, x = W.ref n) ∧ Kp [] h h' ∧ ls = [some (.ref kf), a1, a2, a3, a4]
theorem plainr_to (S : Sk h0 h d g kf fs G) (pl : Pln fs G) (q : ∀ h', Kp [] h h' → Q (.bl true) h') : (F__law_plain_right [.ref kf] h).to Q E := by
  have hz : sizeLine = 16777216 := sizeLine_eq
  have l8 := S.l8
  unfold F__law_plain_right s__law_plain_right s__law_plain_right_4 s__law_plain_right_5
  generalize hB : sSeq s__law_plain_right_1 (sSeq s__law_plain_right_2 s__law_plain_right_3) = B
  simp [lstAt, S.ef]
  refine for_inv (JP h kf fs) _ _ _ ⟨_, _, _, _, fun x m => by obtain ⟨y, my, rfl⟩ := List.mem_map.mp m; exact ⟨y, my, rfl⟩, Kp.refl _ _, rfl⟩ (fun x xs ls h1 J => ?_) fun ls h1 J => ?_
  · obtain ⟨a1, a2, a3, a4, hx, K, rfl⟩ := J
    obtain ⟨n, mn, rfl⟩ := hx x (by simp)
    have S1 := S.kp K
    have p1 := S1.pool
    refine ⟨by simp [gOk, lstAt, K.get S.ef S.lf (by simp), W.eqbs_refl], _, rfl, ?_⟩
    obtain ⟨k, en⟩ := S1.ends n mn
    obtain ⟨r, hr, c⟩ := Ctxs.of en
    have lk := Ends.lt p1.ctx mn en
    have nd := Ctxs.nd p1.ctx mn en c
    have mem : ∀ z ∈ r, z ∈ fs := fun z mz => (Ctxs.mem p1.ctx mn en c z mz).1
    have ech := chainOf_ctx c (fun z mz => pl z (by rcases List.mem_cons.mp mz with rfl | mz; exact mn; exact mem z mz)) nd (by omega)
    have ok := chainOf_ok p1 mn
    subst hB
    rw [sq]
    unfold s__law_plain_right_1
    rw [e_ch]
    simp only [List.set_cons_succ, List.set_cons_zero]
    generalize hB : sSeq s__law_plain_right_2 s__law_plain_right_3 = B
    simp [pick]
    refine mkch_to p1 (by omega) mn fun h2 K2 n2 c2 => ?_
    subst hB
    rw [sq]
    unfold s__law_plain_right_2
    generalize hB : s__law_plain_right_3 = B
    simp [pk1]
    refine listed_to c2 (by rw [ech]; simp; omega) ?_
    have K3 := (K2.trans (Kp.new _ h2 (.lst ((chainOf G n).L.map W.ref)))).trans (Kp.new _ (h2.new (.lst ((chainOf G n).L.map W.ref))) (.lst [.ref n]))
    have g1 : ((h2.new (.lst ((chainOf G n).L.map W.ref))).new (.lst [.ref n])).get h2.nx = some (.lst ((chainOf G n).L.map W.ref)) := (Heap.new_ne (by simp)).trans (Heap.new_same _ _)
    have g2 : ((h2.new (.lst ((chainOf G n).L.map W.ref))).new (.lst [.ref n])).get (h2.new (.lst ((chainOf G n).L.map W.ref))).nx = some (.lst [.ref n]) := Heap.new_same _ _
    have n3 : ((h2.new (.lst ((chainOf G n).L.map W.ref))).new (.lst [.ref n])).nx = h2.nx + 2 := rfl
    have c3 : ChAt ((h2.new (.lst ((chainOf G n).L.map W.ref))).new (.lst [.ref n])) h1.nx (chainOf G n) := (Heap.new_ne (by simp; omega)).trans ((Heap.new_ne (by omega)).trans c2)
    have n4 : (h2.new (.lst ((chainOf G n).L.map W.ref))).nx = h2.nx + 1 := rfl
    rw [n4] at g2 ⊢
    generalize (h2.new (.lst ((chainOf G n).L.map W.ref))).new (.lst [.ref n]) = h3 at K3 g1 g2 n3 c3 ⊢
    have p3 := p1.kp K3 (by simp)
    refine ⟨by omega, ?_⟩
    rw [el1_eq p3 mn c mem (by omega)]
    simp
    have g4 : (h3.new (.lst (r.map W.ref))).get (h2.nx + 1) = some (.lst [.ref n]) := (Heap.new_ne (by omega)).trans g2
    refine ⟨_, g4, by simp; omega, ?_⟩
    have e5 : [W.ref n] ++ r.map W.ref = (chainOf G n).L.map W.ref := by rw [ech]; rfl
    rw [e5]
    have K5 := K3.trans ((Kp.new _ h3 (.lst (r.map W.ref))).trans (Kp.new _ (h3.new (.lst (r.map W.ref))) (.lst ((chainOf G n).L.map W.ref))))
    have g5 : ((h3.new (.lst (r.map W.ref))).new (.lst ((chainOf G n).L.map W.ref))).get (h3.nx + 1) = some (.lst ((chainOf G n).L.map W.ref)) := Heap.new_same _ _
    have g6 : ((h3.new (.lst (r.map W.ref))).new (.lst ((chainOf G n).L.map W.ref))).get h2.nx = some (.lst ((chainOf G n).L.map W.ref)) := (Heap.new_ne (by simp; omega)).trans ((Heap.new_ne (by omega)).trans g1)
    have c5 : ChAt ((h3.new (.lst (r.map W.ref))).new (.lst ((chainOf G n).L.map W.ref))) h1.nx (chainOf G n) := (Heap.new_ne (by simp; omega)).trans ((Heap.new_ne (by omega)).trans c3)
    generalize (h3.new (.lst (r.map W.ref))).new (.lst ((chainOf G n).L.map W.ref)) = h5 at K5 g5 g6 c5 ⊢
    refine neL_same g6 g5 flat_refs (.inl ⟨rfl, ⟨_, c5⟩, ?_⟩)
    rw [e_rep]
    refine repeat_to c5 (.inr ⟨by rw [ech]; rfl, ?_⟩)
    subst hB
    have p5 := p1.kp K5 (by simp)
    unfold s__law_plain_right_3
    obtain ⟨h6, k6, K6, k61, k62, g6, e6⟩ := lk_eq (a0 := some (W.ref kf)) (a2 := some (W.ref h1.nx)) (a3 := a3) (a4 := a4) p5 (by omega) mn (by rw [ech]; exact fun a ma => (List.mem_replicate.mp ma).2)
    have p6 := p5.kp K6 (by simp)
    simp
    rw [e6]
    simp
    have g7 : (h6.new (.lst [])).get k6 = some (.lst (([] : List Nat).map W.ref)) := (Heap.new_ne (by omega)).trans g6
    have p7 := p6.kp (Kp.new [] h6 (.lst [])) (by simp)
    have K7 := K6.trans (Kp.new [] h6 (.lst []))
    refine neL_same g7 (Heap.new_same _ _) flat_refs (.inl ⟨rfl, ?_⟩)
    generalize h6.new (.lst []) = h7 at p7 K7 ⊢
    rw [el2_eq p7 mn c mem (by omega)]
    simp
    have p8 := p7.kp (Kp.new [] h7 (.lst (r.map W.ref))) (by simp)
    rw [idin_to p8 mn mem (Heap.new_same _ _)]
    have nr : n ∉ r := (List.nodup_cons.mp nd).1
    simp [orO, nr]
    exact ⟨_, _, _, _, fun x m => hx x (by simp [m]), ((K.trans K5).trans K7).trans (Kp.new _ _ _), rfl⟩
  · obtain ⟨a1, a2, a3, a4, hx, K, rfl⟩ := J
    exact ⟨by simp [gOk, lstAt, K.get S.ef S.lf (by simp), W.eqbs_refl], q _ K⟩
end
end K11
set_option maxRecDepth 100000
namespace K11
open PySem L2 Ev EvF
section
variable {h h0 : Ev.Heap} {n d g kf : Nat} {Q : W → Ev.Heap → Prop} {E : Nat → List (Nat × W) → Ev.Heap → Prop} {fs : List Nat} {G : Nat → Flt} {P : Po}
abbrev Lr (a0 : Option W) (d : Nat) (a2 : Option W) (many : Nat) (kf n m : Nat) : Ls := [a0, some (.ref d), a2, some (.int (many : Int)), some (.ref kf), some (.ref n), some (.ref m)]
theorem eqO_bl {a b : Bool} : eqO h (.bl a) (.bl b) = some (a == b) := by
  cases a <;> cases b <;> simp [eqO, seqW, dataEq, toD, SeqAt.shaped, PyData.canLay0, PyData.depth, PyData.eqv]
theorem lst_flt {a b : Nat} {f g : Flt} (x : FltAt h a f) : lstEq idF h (.ref a) (.ref b) = none := by
  have x' : h.get a = _ := x
  simp only [lstEq, x']
theorem eqF_to {a b : Nat} {f g : Flt} (x : FltAt h a f) (y : FltAt h b g) (q : Q (.bl (decide (a = b))) h) : (wEqN idF (.ref a) (.ref b) h).to Q E := by
  rw [o_eqN, lst_flt (g := g) x, idEq_flt x y]
  exact ⟨_, rfl, q⟩
theorem eqO_to {o : Option Nat} {b : Nat} {G : Nat → Flt} (p : Pool h fs G) (ho : ∀ m, o = some m → m ∈ fs) (mb : b ∈ fs) (q : Q (.bl (decide (o = some b))) h) : (wEqN idF (oW o) (.ref b) h).to Q E := by
  have y := (p.at_ b mb).1
  have y' : h.get b = _ := y
  cases o with
  | none =>
    rw [o_eqN]
    refine ⟨false, ?_, by simpa using q⟩
    simp [nonEq, oW, y', idF, orO]
  | some a =>
    refine eqF_to (p.at_ a (ho a rfl)).1 y ?_
    simpa using q
theorem neT_to {xs : List W} (hx : ∀ x ∈ xs, flatW x = true) (q : Q (.bl false) h) : (wNeL idF (.tup xs) (.tup xs) h).to Q E := by
  rw [o_neL]
  refine ⟨true, ?_, q⟩
  simp only [lstEq, zip_same fun x m => it_same (hx x m), orO]
theorem neB_to {a b : Bool} (q : Q (.bl (!(a == b))) h) : (wNeL idF (.bl a) (.bl b) h).to Q E := by
  rw [o_neL]
  exact ⟨a == b, by simp [lstEq, idEq, orO, eqO_bl], q⟩
theorem law67_to {m : Nat} {a0 a2 : Option W} {many : Nat} (S : Sk h0 h d g kf fs G) (mn : n ∈ fs) (mm : m ∈ fs) (ec : (G n).cau = some m) (pl : ∀ z ∈ fs, z ≠ n → (G z).cau = none ∧ (G z).hid = false)
    (q : ∀ h', Kp [] h h' → P.nx (Lr a0 d a2 many kf n m) h') : (sSeq s_law_6 s_law_7 (Lr a0 d a2 many kf n m) h).to P := by
  have hz : sizeLine = 16777216 := sizeLine_eq
  have l8 := S.l8
  have p := S.pool
  have ok := chainOf_ok p mn
  rw [sq]
  generalize hB : s_law_7 = B
  unfold s_law_6
  rw [e_ch, e_ways]
  simp [pk1]
  refine mkch_to p (by omega) mn fun h1 K1 n1 c1 => ?_
  have p1 := p.kp K1 (by simp)
  have c1' : h1.get h.nx = _ := c1
  simp [c1']
  refine ways_to c1 ?_
  have meet : ∀ h2, Kp [] h1 h2 → (F__law_meeting_right [W.ref kf] h2).to (fun x h1 => Ev.wTru h1 x = some false ∧ P.rt (W.bl false) h1 ∨ Ev.wTru h1 x = some true ∧ (B (Lr a0 d a2 many kf n m) h1).to P) fun c fs h1 => P.ex c fs (Lr a0 d a2 many kf n m) h1 := fun h2 K2 => by
    have S2 := S.kp (K1.trans K2)
    refine meeting_to S2.pool (by omega) S2.ef S2.lf fun h3 K3 => .inr ⟨rfl, ?_⟩
    subst hB
    have S3 := S2.kp K3
    have p3 := S3.pool
    unfold s_law_7
    rw [e_ch, e_rep]
    simp [pk1]
    refine mkch_to p3 (by omega) mn fun h4 K4 n4 c4 => ?_
    have p4 := p3.kp K4 (by simp)
    have c4' : h4.get h3.nx = _ := c4
    simp [c4']
    refine repeat_to c4 ?_
    refine eqO_to p4 (fun x e => ok.sub x (ok.rep x e)) mn ?_
    refine chl_to (a0 := fun _ _ => True) p4 (by omega) mm fun h5 k5 K5 k1 k2 e5 => ?_
    have p5 := p4.kp K5 (by simp)
    have okm := chainOf_ok p mm
    rw [idin_to p5 mn okm.sub e5]
    obtain ⟨j, en⟩ := S.ends m mm
    have lj := Ends.lt p.ctx mm en
    have bi := back_iff p.ctx pl ec mm en (by omega)
    have fin := q h5 (((K1.trans K2).trans K3).trans (K4.trans K5))
    by_cases z : n ∈ (chainOf G m).L
    · refine .inr ⟨by simp [orO, z], neB_to (.inl ⟨?_, fin⟩)⟩
      rw [decide_eq_true (bi.mpr z)]
      rfl
    · refine .inl ⟨by simp [orO, z], neB_to (.inl ⟨?_, fin⟩)⟩
      rw [decide_eq_false fun y => z (bi.mp y)]
      rfl
  simp
  refine eqF_to (p1.at_ n mn).1 (p1.at_ m mm).1 ?_
  by_cases z : n = m
  · refine .inr ⟨by simp [z], ?_⟩
    have : wCut (List.map W.str (chainOf G n).W) none (some 1) = [] := by
      subst z
      rw [chainOf_self ec]
      simp [wCut]
    rw [this]
    exact neT_to (by simp) (.inl ⟨rfl, meet h1 (Kp.refl _ _)⟩)
  · refine .inl ⟨by simp [z], by omega, ?_⟩
    have : wCut (List.map W.str (chainOf G n).W) none (some 1) = [.str "cause"] := by
      rw [chainOf_cause ec (fun e => z e.symm)]
      obtain ⟨t, u, _, hu⟩ := chn_pre (G := G) 1999 (l := [n, m]) (w := ["cause"]) (x := m)
      rw [hu]
      simp [wCut, HT.sIx]
    rw [this]
    exact neT_to (by simp [flatW]) (.inl ⟨rfl, meet h1 (Kp.refl _ _)⟩)
theorem law9_to {m : Nat} {a0 a2 : Option W} {many : Nat} (S : Sk h0 h d g kf fs G) (mn : n ∈ fs) (ec : (G n).cau = none) (eh : (G n).hid = true)
    (q : ∀ h', Kp [] h h' → P.nx (Lr a0 d a2 many kf n m) h') : (s_law_9 (Lr a0 d a2 many kf n m) h).to P := by
  have l8 := S.l8
  have p := S.pool
  have ee := chainOf_end ec eh
  unfold s_law_9
  rw [e_ch, e_rep, e_len]
  simp [pk1]
  refine mkch_to p (by omega) mn fun h1 K1 n1 c1 => ?_
  have p1 := p.kp K1 (by simp)
  rw [ee] at c1
  refine len_to c1 (by simp) ?_
  refine .inr ⟨by simp, ?_⟩
  refine mkch_to p1 (by omega) mn fun h2 K2 n2 c2 => ?_
  rw [ee] at c2
  have c2' : h2.get h1.nx = _ := c2
  simp [c2']
  refine repeat_to c2 (.inr ⟨rfl, ?_⟩)
  have S2 := S.kp (K1.trans K2)
  exact meeting_to S2.pool (by omega) S2.ef S2.lf fun h3 K3 => .inr ⟨rfl, q _ ((K1.trans K2).trans K3)⟩
theorem Pool.closed (p : Pool h fs G) : ∀ z ∈ fs, ∀ m, (G z).ctx = some m → m ∈ fs := p.ctx
theorem withS_to {o : Option Nat} (S : Sk h0 h d g kf fs G) (mn : n ∈ fs) (ho : ∀ m, o = some m → m ∈ fs) (q : ∀ h', Sk h0 h' d g kf fs (upG G n { G n with cau := o, hid := true }) → Q .non h') : (EvF.F_with_cause [.ref n, oW o] h).to Q E :=
  with_cause_to S.pool mn ho fun h' K p => q h' (S.up (K.mono (by simp; exact mn)) p fun x mx => by
    obtain ⟨k, e⟩ := S.ends x mx
    exact ⟨k, e.congr fun z => by unfold upG; split <;> simp_all⟩)
theorem round_to {a0 a2 a3 a4 a5 a6 : Option W} (D : Drw "mixed" h d g) (q : ∀ h' a3 a4 a5 a6, Drw "mixed" h' d g → P.nx [a0, some (.ref d), a2, a3, a4, a5, a6] h') :
    (sSeq (s_law_1) (sSeq (s_law_2) (sSeq (s_law_3) (sSeq (s_law_4) (sSeq (s_law_5) (sSeq (s_law_6) (sSeq (s_law_7) (sSeq (s_law_8) (s_law_9)))))))) [a0, some (.ref d), a2, a3, a4, a5, a6] h).to P := by
  rw [sq]
  generalize hB : sSeq (s_law_3) (sSeq (s_law_4) (sSeq (s_law_5) (sSeq (s_law_6) (sSeq (s_law_7) (sSeq (s_law_8) (s_law_9)))))) = B
  unfold s_law_1 s_law_2
  rw [next_eq]
  simp [pick]
  refine nxt2_to D (by omega) (by omega) fun t h1 ht D1 K1 => ?_
  simp
  refine nxt2_to D1 (by omega) (by omega) fun t2 h2 ht2 D2 K2 => ?_
  rw [show (1 : Int) + (t : Int) = ((1 + t : Nat) : Int) by omega]
  refine handled_to D2 (by omega) (by omega) (by omega) fun h3 kf fs G S pl fl => ?_
  subst hB
  rw [sq]
  generalize hB : sSeq (s_law_4) (sSeq (s_law_5) (sSeq (s_law_6) (sSeq (s_law_7) (sSeq (s_law_8) (s_law_9))))) = B
  unfold s_law_3
  simp [pick]
  have l8 := S.l8
  refine plainr_to S pl fun h4 K4 => .inr ⟨rfl, ?_⟩
  have S4 := S.kp K4
  refine meeting_to S4.pool (by omega) S4.ef S4.lf fun h5 K5 => .inr ⟨rfl, ?_⟩
  have S5 := S4.kp K5
  subst hB
  rw [sq]
  generalize hB : sSeq (s_law_5) (sSeq (s_law_6) (sSeq (s_law_7) (sSeq (s_law_8) (s_law_9)))) = B
  unfold s_law_4
  rw [next_eq]
  rw [show (1 : Int) + (t : Int) = ((1 + t : Nat) : Int) by omega]
  simp [pick, -o_ix_int]
  rw [show (1 : Int) + (t : Int) = ((1 + t : Nat) : Int) by omega]
  refine nxt2_to S5.D (by omega) (by omega) fun i h6 hi D6 K6 => ?_
  have S6 := S5.dr D6 K6
  obtain ⟨n, en⟩ : ∃ n, fs[i]? = some n := ⟨_, List.getElem?_eq_getElem (by omega)⟩
  refine ixn_to' S6.ef en ?_
  refine nxt2_to S6.D (by omega) (by omega) fun j h7 hj D7 K7 => ?_
  have S7 := S6.dr D7 K7
  obtain ⟨m, em⟩ : ∃ m, fs[j]? = some m := ⟨_, List.getElem?_eq_getElem (by omega)⟩
  refine ixn_to' S7.ef em ?_
  have mn := List.mem_of_getElem? en
  have mm := List.mem_of_getElem? em
  subst hB
  rw [sq]
  generalize hB : sSeq (s_law_6) (sSeq (s_law_7) (sSeq (s_law_8) (s_law_9))) = B
  unfold s_law_5
  rw [e_with]
  simp [pick]
  refine withS_to (o := some m) S7 mn (fun _ e => by cases e; exact mm) fun h8 S8 => ?_
  generalize hG : upG G n { G n with cau := some m, hid := true } = G1 at S8
  have g1 : (G1 n).cau = some m := by rw [← hG, upG_same]
  have g2 : ∀ z ∈ fs, z ≠ n → (G1 z).cau = none ∧ (G1 z).hid = false := fun z mz ne => by rw [← hG, upG_ne ne]; exact pl z mz
  subst hB
  have e67 : ∀ {a b c d : SS} {ls : Ls} {h : Ev.Heap} {P : Po}, (sSeq a (sSeq b (sSeq c d)) ls h).to P ↔ (sSeq a b ls h).to { nx := fun l h => (sSeq c d l h).to P, rt := P.rt, bk := P.bk, ct := P.ct, ex := P.ex } := by
    intro a b c d ls h P
    simp
  rw [e67]
  refine law67_to (many := 1 + t) S8 mn mm g1 g2 fun h9 K9 => ?_
  have S9 := S8.kp K9
  dsimp only
  rw [sq]
  generalize hB : s_law_9 = B
  unfold s_law_8
  rw [e_with]
  simp [pick]
  refine withS_to (o := none) S9 mn (fun _ e => by cases e) fun h10 S10 => ?_
  subst hB
  refine law9_to (many := 1 + t) S10 mn (by rw [upG_same]) (by rw [upG_same]) fun h11 K11 => ?_
  exact q _ _ _ _ _ (S10.kp K11).D
def J11 (d g : Nat) (a0 : Option W) (_ : List W) (ls : Ls) (h' : Ev.Heap) : Prop := ∃ (a2 a3 a4 a5 a6 : Option W), Drw "mixed" h' d g ∧ ls = [a0, some (.ref d), a2, a3, a4, a5, a6]
theorem law11_to {ns : List Int} {a2 a3 a4 a5 a6 : Option W} (hl : ns.length ≤ 63) (D : Drw "mixed" h d g) (q : ∀ h' ls, P.nx ls h') : Tow (s_law_11 [some (scriptW ns), some (.ref d), a2, a3, a4, a5, a6] h) P := by
  rw [tow_iff]
  have hz : sizeLine = 16777216 := sizeLine_eq
  unfold s_law_11
  generalize hB : sSeq (s_law_1) (sSeq (s_law_2) (sSeq (s_law_3) (sSeq (s_law_4) (sSeq (s_law_5) (sSeq (s_law_6) (sSeq (s_law_7) (sSeq (s_law_8) (s_law_9)))))))) = B
  simp [scriptW]
  refine ⟨by split <;> simp [smallR] <;> omega, for_inv (J11 d g (some (scriptW ns))) _ _ _ ⟨_, _, _, _, _, D, rfl⟩ (fun x xs ls h1 J => ?_) fun ls h1 J => ⟨rfl, q _ _⟩⟩
  obtain ⟨b2, b3, b4, b5, b6, D1, rfl⟩ := J
  refine ⟨rfl, _, rfl, ?_⟩
  subst hB
  simp only [List.set_cons_succ, List.set_cons_zero]
  refine round_to D1 fun h' c3 c4 c5 c6 D' => ?_
  exact ⟨_, _, _, _, _, D', rfl⟩
theorem plain_to (ns : List Int) (hl : ns.length ≤ 63) : (F_law [scriptW ns] h0).to (fun w _ => w = .bl true) fun _ _ _ => False := by
  unfold F_law s_law
  generalize hB : sSeq (s_law_11) (s_law_12) = B
  unfold s_law_10
  rw [begun_eq]
  simp [pick]
  refine begun_to hl (q := fun d g h1 D K k1 k2 => ?_)
  subst hB
  rw [sq, ← tow_iff]
  refine law11_to hl D fun h' ls => ?_
  unfold s_law_12
  simp
theorem plain (ns : List Int) (hl : ns.length ≤ 63) : ∃ h', F_law [scriptW ns] h0 = .ok (.bl true) h' := by
  have := plain_to (h0 := h0) ns hl
  rw [to_iff] at this
  rcases this with ⟨w, h', e, rfl⟩ | ⟨_, _, _, _, z⟩
  · exact ⟨h', e⟩
  · exact z.elim
end
end K11
set_option maxRecDepth 100000
set_option maxHeartbeats 0
namespace K11
open PySem L2 Ev PyProof.Rows
def hk : PySem.W.Hook := hookT 7 facts fns tabs
def ob (s : PySem.W.SharedT) : AlT := obsTG 7 facts fns tabs (HandSHeadRun.getT s)
theorem ob_eq (s : PySem.W.SharedT) : ob s = hk.obs s.abs := obsTG_eq (fc := facts) (HandSHeadRun.getT_eq s)
abbrev Rw : PySem.W.OpenRow := PySem.W.OpenLaw.row PySem.Challenge.rw_exitstacks_k11_whole_links_and_chains
def loose : List Str := (["__name__", "ModelError", "BadKind", "BadLabel", "BadNumber", "BadFault", "Absent", "NoPlace", "MOST_LETTERS", "MOST_LABEL", "is_letter", "is_kind", "is_label", "Fault", "need_fault", "need_fault_or_none", "raise_under", "with_cause", "next_link", "chain_parts", "Chain", "links", "contexts", "_law_begun", "_law_next", "_law_handled", "_law_listed", "_law_plain_right", "_law_meeting_right"] : List Str)
def setB (b : Bool) (P : Params) : Params := { P with followText := fun s => bif s == "special-get-raises" then b else P.followText s }
theorem setB_eq {b : Bool} {P : Params} (h : P.followText "special-get-raises" = b) : setB b P = P := by
  have e : (fun s => bif s == "special-get-raises" then b else P.followText s) = P.followText := by
    funext s
    by_cases z : s = "special-get-raises"
    · subst z; exact h.symm
    · have e : (s == "special-get-raises") = false := beq_false_of_ne z
      rw [e]; rfl
  unfold setB
  rw [e]
theorem run1 (b : Bool) (w : World) : HandSHeadRun.RunEq Rw (PySem.W.view Rw.prog [33]) hk ob 20000 loose { w with params := setB b w.params } := by
  cases b <;> (intro os; kernel_rfl)
theorem run (w : World) : HandSHeadRun.RunEq Rw (PySem.W.view Rw.prog [33]) hk ob 20000 loose w := by
  have := run1 (w.params.followText "special-get-raises") w
  rw [setB_eq rfl] at this
  exact this
theorem found (w : World) (mg : Str → Option Value) (fa : Addr) (h : PySem.Heap) (Y : hk.says w h) (G : h.Ns mainGlobals mg) (hm : mg "law" = some (.ref fa)) :
    ∃ (K : PySem.W.Frag) (fd : FuncData) (Nn : Nm), K.In h ∧ (∀ (s : Shared) (u : Value), BindsTo s fd ⟨[u], []⟩ [("_law_script", u)]) ∧
      ∀ base : PySem.Heap, K.In base → base.Ns mainGlobals mg → FG Prog w K mg base 10 fa fd ["_law_script"] (LSp K Nn F_law) := by
  obtain ⟨K, KX, c⟩ := Y
  have gs := gs_of KX G c c.c
  obtain rfl : fa = He.ga K "law" := by have := gs.m_law; rw [hm] at this; cases this; rfl
  obtain ⟨fd, h2⟩ := gs.d_law
  refine ⟨K, fd, nm K, KX, fun s u => ?_, fun base _ _ => ?_⟩
  · exact FunD.bindsA (ps := ["_law_script"]) h2 (fun _ _ _ _ _ _ us hl => match us, hl with | [_], _ => rfl) s [u] rfl
  · obtain ⟨fd', q2, q3⟩ := (D_law (P := Prog) (w := w) (base := base) gs).ex
    obtain ⟨_, _, _, _, _, _, _, _, _, _, e1, l1, _⟩ := h2.ex
    obtain ⟨_, _, _, _, _, _, _, _, _, _, e2, l2, _⟩ := q2.ex
    rw [l1] at l2
    cases l2
    exact q3
end K11
open PySem PySem.W PySem.Calls PyProof.Rows
theorem PySem.Challenge.cw_exitstacks_k11_whole_links_and_chains_holds : PySem.Challenge.rw_exitstacks_k11_whole_links_and_chains.Holds := by
  w_on; o_law
  refine HandSHeadRun.head_any (r := OpenLaw.row PySem.Challenge.rw_exitstacks_k11_whole_links_and_chains) (q := view (OpenLaw.row PySem.Challenge.rw_exitstacks_k11_whole_links_and_chains).prog [33]) (H := K11.hk) (ob := K11.ob) (M := 20000) (loose := K11.loose) (d := HandSHeadRun.topDef (OpenLaw.row PySem.Challenge.rw_exitstacks_k11_whole_links_and_chains).prog 33) (kwd := []) K11.ob_eq
    (by kernel_rfl) (fun s => by kernel_rfl) K11.run (by kernel_rfl) (by kernel_rfl) (by kernel_rfl) (by rfl) (by first | assumption | decide +kernel) (by decide +kernel) ⟨rfl, rfl, rfl, rfl, rfl, by decide +kernel⟩ ?hw ?hc
  case hw => w_witness2
  case hc =>
    refine Ev.walk_ev (l := PySem.Challenge.rw_exitstacks_k11_whole_links_and_chains) (n := 63) (k := 10) (x := "_law_script") (G := K11.F_law) rfl (by decide) (by kernel_rfl) ⟨rfl, by decide, by decide⟩ K11.plain ?F
    intro w mg fa h Y G hmg0
    have hmg : mg ("law" : PySem.Str) = some (.ref fa) := by
      have e : (HandSHeadRun.topDef (OpenLaw.row PySem.Challenge.rw_exitstacks_k11_whole_links_and_chains).prog 33).name = ("law" : PySem.Str) := by kernel_rfl
      rw [← e]
      exact hmg0
    exact K11.found w mg fa h Y G hmg
