import PyProof.Rows.All
import Wide.All
import OpenK.AllK
import Wide.FinOn
import HandS.ForMost
import HandS.WordsExc
import HandS.TupAny
import HandS.IsInst
import KE.SortData
import KE.LtData
import HandS.TupLe
import HandS.Deep
import HandS.More
import PyProof.Rows.ReprR
import PyProof.DictMoreH
import KE.KDictDisplayH
import KE.KDictWalk
import HandS.Conv
import HandS.Zip
import HandS.TupLen
import HandS.TupMul
import HandS.SetKeys
import PySem.Challenge.RW_falsedays_k90_shop_refused
import KE.KExcSuper
import HandS.Base
import HandS.Call
import HandS.Exc
import HandS.ExcInit
import HandS.ExcSuper
import HandS.Nested
import KE.DataMinMax
import KE.KExcIs
import HandS.ExcIs
import HandS.ExcOwn
import PyProof.Claim2Refuses
import HandS.ExcField
import HandS.HeadHook1
import HandS.HeadHook2
import KE.KStateDown
import HandS.Defaults
import HandS.Head0
import HandS.Head1
import HandS.Head2
import HandS.HeadEnd
import KE.SortCalls
import KE.KEqDeep
import KE.DataFind
import HandS.Ends
import PyProof.ReprLen
import HandS.OwnEq
set_option Elab.async false
set_option linter.all false
set_option maxRecDepth 100000
set_option maxHeartbeats 4000000
/-! A layer over HandS: what stays from one abstract heap to another, values told by data, readings run under a resource. -/
namespace Fd
open PySem PySem.Spec PyProof.Rows L2

/-! ### heaps: what stays -/
/-- all but the objects of S stays; tuples stay; nothing vanishes -/
structure Ks (S : Addr → Prop) (H H' : Hp) : Prop where
  keep : ∀ a o, ¬ S a → H a = some o → H' a = some o
  tup : ∀ a xs, H a = some (.tup xs) → H' a = some (.tup xs)
  there : ∀ a, H a ≠ none → H' a ≠ none

/-- nothing is excepted -/
abbrev No : Addr → Prop := fun _ => False
/-- all stays -/
abbrev Ke (H H' : Hp) : Prop := Ks No H H'

section
variable {S : Addr → Prop} {H H1 H2 H3 : Hp} {a p : Addr} {o : HO}
theorem Ks.refl : Ks S H H := ⟨fun _ _ _ h => h, fun _ _ h => h, fun _ h => h⟩
theorem Ks.trans (x : Ks S H H1) (y : Ks S H1 H2) : Ks S H H2 :=
  ⟨fun a o n h => y.keep a o n (x.keep a o n h), fun a xs h => y.tup a xs (x.tup a xs h), fun a h => y.there a (x.there a h)⟩
theorem Ke.ks (x : Ke H H1) : Ks S H H1 := ⟨fun a o _ h => x.keep a o (fun z => z) h, x.tup, x.there⟩
theorem Ke.at (x : Ke H H1) (h : H a = some o) : H1 a = some o := x.keep a o (fun z => z) h
theorem Ks.at (x : Ks No H H1) (h : H a = some o) : H1 a = some o := x.keep a o (fun z => z) h
theorem Ks.ks (x : Ks No H H1) : Ks S H H1 := Ke.ks x
theorem Ke.of (h : ∀ a o, H a = some o → H1 a = some o) : Ke H H1 := ⟨fun a o _ => h a o, fun a xs => h a _, fun a n => by
  cases e : H a with
  | none => exact absurd e n
  | some o => rw [h a o e]; simp⟩
theorem Ke.new (h : H p = none) : Ke H (upd H p o) := Ke.of fun a u e => by
  rw [upd_ne (ne_of_none e h)]; exact e
theorem Ks.free (x : Ks S H H1) (h : H1 p = none) : H p = none := by
  cases e : H p with
  | none => rfl
  | some o => exact absurd h (x.there p (by rw [e]; simp))
/-- an object that is no tuple is changed, a place of S -/
theorem Ks.mut (x : Ks S H H1) (s : S p) (h : ∀ xs, H1 p ≠ some (.tup xs)) : Ks S H (upd H1 p o) :=
  ⟨fun a u n e => by
    rw [upd_ne (fun z : a = p => n (by rw [z]; exact s))]; exact x.keep a u n e,
   fun a xs e => by
    have n : a ≠ p := fun z => by
      subst z; exact h xs (x.tup _ xs e)
    rw [upd_ne n]; exact x.tup a xs e,
   fun a n => by
    by_cases e : a = p
    · subst e; rw [upd_same]; simp
    · rw [upd_ne e]; exact x.there a n⟩
/-- .. or one that did not stand at the beginning -/
theorem Ks.mutNew (x : Ks S H H1) (h : H p = none) : Ks S H (upd H1 p o) :=
  ⟨fun a u n e => by rw [upd_ne (ne_of_none e h)]; exact x.keep a u n e,
   fun a xs e => by rw [upd_ne (ne_of_none e h)]; exact x.tup a xs e,
   fun a n => by
    by_cases e : a = p
    · subst e; rw [upd_same]; simp
    · rw [upd_ne e]; exact x.there a n⟩
theorem Ks.mono {S' : Addr → Prop} (x : Ks S H H1) (h : ∀ a, S a → S' a) : Ks S' H H1 := ⟨fun a o n => x.keep a o fun z => n (h a z), x.tup, x.there⟩
end

/-! ### values told by data -/
/-- a relation of values to data that hangs on the tuples alone -/
structure Tx (H H' : Hp) : Prop where
  tup : ∀ a xs, H a = some (.tup xs) → H' a = some (.tup xs)
theorem Tx.trans {H H1 H2 : Hp} (x : Tx H H1) (y : Tx H1 H2) : Tx H H2 := ⟨fun a xs h => y.tup a xs (x.tup a xs h)⟩
theorem Tx.refl {H : Hp} : Tx H H := ⟨fun _ _ h => h⟩
theorem Ks.tx {S : Addr → Prop} {H H1 : Hp} (x : Ks S H H1) : Tx H H1 := ⟨x.tup⟩

abbrev Rl (α : Type) := Hp → V → α → Prop
/-- it stays where tuples stay -/
def Stb {α : Type} (R : Rl α) : Prop := ∀ H H' v x, Tx H H' → R H v x → R H' v x
/-- it stays where all stays -/
def Sto {α : Type} (R : Rl α) : Prop := ∀ H H' v x, Ke H H' → R H v x → R H' v x
theorem Stb.sto {α : Type} {R : Rl α} (s : Stb R) : Sto R := fun H H' v x k h => s H H' v x k.tx h
/-- an int -/
def II : Rl Int := fun _ v n => v = .int n
/-- a bool -/
def BB : Rl Bool := fun _ v b => v = .bl b
/-- a tuple of ints -/
def TI : Rl (List Int) := fun H v ns => ∃ a, v = .ref a ∧ H a = some (.tup (ns.map V.int))
/-- a tuple of such -/
def TT {α : Type} (R : Rl α) : Rl (List α) := fun H v xs => ∃ a vs, v = .ref a ∧ H a = some (.tup vs) ∧ Paired (R H) vs xs
/-- a list of such -/
def LL {α : Type} (R : Rl α) : Rl (List α) := fun H v xs => ∃ a vs, v = .ref a ∧ H a = some (.lst vs) ∧ Paired (R H) vs xs
/-- a pair of such -/
def PP {α β : Type} (R : Rl α) (R' : Rl β) : Rl (α × β) := fun H v x => ∃ a u w, v = .ref a ∧ H a = some (.tup [u, w]) ∧ R H u x.1 ∧ R' H w x.2

theorem pimp {α β : Type} {F G : α → β → Prop} (f : ∀ a b, F a b → G a b) : ∀ {l : List α} {m : List β}, Paired F l m → Paired G l m
  | _, _, .nil => .nil
  | _, _, .cons h t => .cons (f _ _ h) (pimp f t)
/-- places of what is paired -/
theorem pget {α β : Type} {F : α → β → Prop} : ∀ {l : List α} {m : List β} {i : Nat} {y : β}, Paired F l m → m[i]? = some y → ∃ x, l[i]? = some x ∧ F x y
  | _, _, _, _, .nil, e => by simp at e
  | _, _, 0, _, .cons h _, e => by
    have e' := Option.some.inj (by simpa using e)
    subst e'
    exact ⟨_, rfl, h⟩
  | _, _, i + 1, y, .cons _ t, e => by
    obtain ⟨x, h1, h2⟩ := pget (i := i) (y := y) t (by simpa using e)
    exact ⟨x, by simpa using h1, h2⟩
theorem pgetL {α β : Type} {F : α → β → Prop} : ∀ {l : List α} {m : List β} {i : Nat} {x : α}, Paired F l m → l[i]? = some x → ∃ y, m[i]? = some y ∧ F x y
  | _, _, _, _, .nil, e => by simp at e
  | _, _, 0, _, .cons h _, e => by
    have e' := Option.some.inj (by simpa using e)
    subst e'
    exact ⟨_, rfl, h⟩
  | _, _, i + 1, x, .cons _ t, e => by
    obtain ⟨y, h1, h2⟩ := pgetL (i := i) (x := x) t (by simpa using e)
    exact ⟨y, by simpa using h1, h2⟩
theorem plen {α β : Type} {F : α → β → Prop} {l : List α} {m : List β} (p : Paired F l m) : l.length = m.length := Paired.length p
theorem patI {α β : Type} {F : α → β → Prop} {l : List α} {m : List β} {i : Int} {y : β} (p : Paired F l m) (e : atI m i = some y) : ∃ x, atI l i = some x ∧ F x y := by
  unfold atI at e ⊢
  rw [plen p]
  cases q : ixN m.length i with
  | none => rw [q] at e; cases e
  | some j =>
    rw [q] at e
    have e' : m[j]? = some y := e
    obtain ⟨x, h1, h2⟩ := pget p e'
    exact ⟨x, h1, h2⟩
theorem papp {α β : Type} {F : α → β → Prop} : ∀ {l l' : List α} {m m' : List β}, Paired F l m → Paired F l' m' → Paired F (l ++ l') (m ++ m')
  | _, _, _, _, .nil, q => q
  | _, _, _, _, .cons h t, q => .cons h (papp t q)
theorem pset {α β : Type} {F : α → β → Prop} {x : α} {y : β} (h : F x y) : ∀ {l : List α} {m : List β} (i : Nat), Paired F l m → Paired F (l.set i x) (m.set i y)
  | _, _, _, .nil => .nil
  | _, _, 0, .cons _ t => .cons h t
  | _, _, i + 1, .cons q t => .cons q (pset h i t)
theorem II.stb : Stb II := fun _ _ _ _ _ h => h
theorem BB.stb : Stb BB := fun _ _ _ _ _ h => h
theorem TI.stb : Stb TI := fun _ _ _ _ k ⟨a, e, h⟩ => ⟨a, e, k.tup a _ h⟩
theorem TT.stb {α : Type} {R : Rl α} (s : Stb R) : Stb (TT R) := fun _ _ _ _ k ⟨a, vs, e, h, p⟩ => ⟨a, vs, e, k.tup a _ h, pimp (fun v x r => s _ _ v x k r) p⟩
theorem PP.stb {α β : Type} {R : Rl α} {R' : Rl β} (s : Stb R) (s' : Stb R') : Stb (PP R R') := fun _ _ _ _ k ⟨a, u, w, e, h, p, q⟩ => ⟨a, u, w, e, k.tup a _ h, s _ _ _ _ k p, s' _ _ _ _ k q⟩
theorem LL.sto {α : Type} {R : Rl α} (s : Sto R) : Sto (LL R) := fun _ _ _ _ k ⟨a, vs, e, h, p⟩ => ⟨a, vs, e, k.at h, pimp (fun v x r => s _ _ v x k r) p⟩
theorem TT.sto {α : Type} {R : Rl α} (s : Sto R) : Sto (TT R) := fun _ _ _ _ k ⟨a, vs, e, h, p⟩ => ⟨a, vs, e, k.at h, pimp (fun v x r => s _ _ v x k r) p⟩

theorem pmap_int {H : Hp} : ∀ ns : List Int, Paired (II H) (ns.map V.int) ns
  | [] => .nil
  | _ :: ns => .cons rfl (pmap_int ns)
theorem paired_int {H : Hp} : ∀ {vs : List V} {ns : List Int}, Paired (II H) vs ns → vs = ns.map V.int
  | _, _, .nil => rfl
  | _, _, .cons h t => by
    have h' : _ = V.int _ := h
    rw [h', paired_int t]; rfl
theorem TI.tt {H : Hp} {v : V} {ns : List Int} : TI H v ns ↔ TT II H v ns :=
  ⟨fun ⟨a, e, h⟩ => ⟨a, _, e, h, pmap_int ns⟩, fun ⟨a, vs, e, h, p⟩ => ⟨a, e, by rw [h, paired_int p]⟩⟩

/-! ### data as the library takes it -/
def tI (ns : List Int) : PyData := .tuple (ns.map .int)
def Enc {α : Type} (R : Rl α) (e : α → PyData) : Prop := ∀ (K : PySem.W.Frag) H v x, R H v x → Dp K H v (e x)
theorem II.enc : Enc II .int := fun K H v x h => by
  have h' : v = .int x := h
  rw [h']; exact .int x
theorem BB.enc : Enc BB .bool := fun K H v x h => by
  have h' : v = .bl x := h
  rw [h']; exact .bl x
theorem dpAll_of {α : Type} {R : Rl α} {e : α → PyData} (en : Enc R e) {K : PySem.W.Frag} {H : Hp} : ∀ {vs : List V} {xs : List α}, Paired (R H) vs xs → DpAll K H vs (xs.map e)
  | _, _, .nil => .nil
  | _, _, .cons h t => .cons (en K H _ _ h) (dpAll_of en t)
theorem TT.enc {α : Type} {R : Rl α} {e : α → PyData} (en : Enc R e) : Enc (TT R) fun xs => .tuple (xs.map e) := fun K H v x ⟨a, vs, ev, h, p⟩ => by
  rw [ev]; exact .tup (SqT.of h) (dpAll_of en p)
theorem LL.enc {α : Type} {R : Rl α} {e : α → PyData} (en : Enc R e) : Enc (LL R) fun xs => .list (xs.map e) := fun K H v x ⟨a, vs, ev, h, p⟩ => by
  rw [ev]; exact .lst (SqL.of h) (dpAll_of en p)
theorem TI.enc : Enc TI tI := fun K H v x h => TT.enc II.enc K H v x (TI.tt.mp h)
theorem PP.enc {α β : Type} {R : Rl α} {R' : Rl β} {e : α → PyData} {e' : β → PyData} (en : Enc R e) (en' : Enc R' e') : Enc (PP R R') fun x => .tuple [e x.1, e' x.2] := fun K H v x ⟨a, u, w, ev, h, p, q⟩ => by
  rw [ev]; exact .tup (SqT.of h) (.cons (en K H _ _ p) (.cons (en' K H _ _ q) .nil))

/-! ### running readings -/
/-- a resource: the objects that may change, a word that stays while they do -/
structure Res where
  S : Addr → Prop
  W : Hp → Prop
  st : ∀ H H', (∀ a o, S a → H a = some o → H' a = some o) → Tx H H' → Ks No H H' → W H → W H'
/-- nothing changes -/
def pu : Res := ⟨No, fun _ => True, fun _ _ _ _ _ _ => True.intro⟩

/-- from every heap that comes behind H the reading t gives something of which P tells -/
def Rn (ρ : Res) {α : Type} (t : Hp → (α → Hp → Prop) → Prop) (H : Hp) (P : α → Hp → Prop) : Prop :=
  ∀ H1, Ks ρ.S H H1 → ρ.W H1 → ∀ Q : α → Hp → Prop, (∀ x H2, Ks ρ.S H1 H2 → ρ.W H2 → P x H2 → Q x H2) → t H1 Q

section
variable {ρ : Res} {α β : Type} {t : Hp → (α → Hp → Prop) → Prop} {u : α → Hp → (β → Hp → Prop) → Prop} {H H' : Hp} {P P' : α → Hp → Prop} {P2 : β → Hp → Prop}
theorem Rn.go (r : Rn ρ t H P) (w : ρ.W H) {Q : α → Hp → Prop} (k : ∀ x H2, Ks ρ.S H H2 → ρ.W H2 → P x H2 → Q x H2) : t H Q := r H .refl w Q k
theorem Rn.mono (r : Rn ρ t H P) (k : Ks ρ.S H H') : Rn ρ t H' P := fun H1 k1 w Q q => r H1 (k.trans k1) w Q q
theorem Rn.imp (r : Rn ρ t H P) (h : ∀ x H2, Ks ρ.S H H2 → ρ.W H2 → P x H2 → P' x H2) : Rn ρ t H P' := fun H1 k1 w Q q => r H1 k1 w Q fun x H2 k2 w2 p => q x H2 k2 w2 (h x H2 (k1.trans k2) w2 p)
theorem Rn.bind (r : Rn ρ t H P) (h : ∀ x H2, Ks ρ.S H H2 → ρ.W H2 → P x H2 → Rn ρ (u x) H2 P2) : Rn ρ (fun H Q => t H fun x H1 => u x H1 Q) H P2 := fun H1 k1 w Q q =>
  r H1 k1 w _ fun x H2 k2 w2 p => h x H2 (k1.trans k2) w2 p H2 .refl w2 Q fun y H3 k3 w3 p3 => q y H3 (k2.trans k3) w3 p3
theorem Rn.ret (h : ∀ H1, Ks ρ.S H H1 → ρ.W H1 → P a H1) : Rn ρ (fun H Q => Q a H) H P := fun H1 k1 w Q q => q a H1 .refl w (h H1 k1 w)
end
/-! ### what stays, of a value -/
/-- P stays under the resource -/
def Sp_ (ρ : Res) {α : Type} (P : α → Hp → Prop) : Prop := ∀ x H H', Ks ρ.S H H' → P x H → P x H'
theorem Stb.sp {ρ : Res} {α : Type} {R : Rl α} (s : Stb R) (x : α) : Sp_ ρ fun v H => R H v x := fun v H H' k h => s H H' v x k.tx h
theorem Sto.sp {α : Type} {R : Rl α} (s : Sto R) (x : α) : Sp_ pu fun v H => R H v x := fun v H H' k h => s H H' v x k h
theorem eq_sp {ρ : Res} {α : Type} (x : α) : Sp_ ρ fun v _ => v = x := fun _ _ _ _ h => h

/-! ### expressions -/
section
variable {ρ : Res} {σ : L2.St} {H : Hp} {ta tb tc te : TE} {P Pa Pb : V → Hp → Prop} {v x y : V} {r : R2}
theorem Res.ke (k : Ke H H') (w : ρ.W H) : ρ.W H' := ρ.st H H' (fun a o _ h => k.at h) k.tx k w
theorem ev_var {i : Nat} (h : σ[i]? = some (some v)) (p : ∀ H1, Ks ρ.S H H1 → ρ.W H1 → P v H1) : Rn ρ (tVar i σ) H P := fun H1 k w Q q => ⟨v, h, q v H1 .refl w (p H1 k w)⟩
/-- a name whose value is told -/
theorem ev_v {i : Nat} {α : Type} {R : Rl α} {z : α} (h : σ[i]? = some (some v)) (hr : R H v z) (s : Sp_ ρ fun v H => R H v z) : Rn ρ (tVar i σ) H fun v H => R H v z := ev_var h fun H1 k _ => s v H H1 k hr
/-- the very value -/
theorem ev_x {i : Nat} (h : σ[i]? = some (some v)) : Rn ρ (tVar i σ) H fun u _ => u = v := ev_var h fun _ _ _ => rfl
theorem ev_c (p : ∀ H1, Ks ρ.S H H1 → ρ.W H1 → P v H1) : Rn ρ (tC v σ) H P := fun H1 k w Q q => q v H1 .refl w (p H1 k w)
theorem ev_k : Rn ρ (tC v σ) H fun u _ => u = v := ev_c fun _ _ _ => rfl
theorem ev_op (ha : Rn ρ (ta σ) H Pa) (sa : Sp_ ρ Pa) (hb : Rn ρ (tb σ) H Pb) (hr : ∀ x y H2, Ks ρ.S H H2 → ρ.W H2 → Pa x H2 → Pb y H2 → Rn ρ (r x y) H2 P) : Rn ρ (tOp r ta tb σ) H P := fun H1 k w Q q =>
  ha H1 k w _ fun x H2 k2 w2 p2 => hb H2 (k.trans k2) w2 _ fun y H3 k3 w3 p3 => hr x y H3 ((k.trans k2).trans k3) w3 (sa x H2 H3 k3 p2) p3 H3 .refl w3 Q fun z H4 k4 w4 p4 => q z H4 ((k2.trans k3).trans k4) w4 p4
theorem rn_I0 {g : Int → Int → V} {i j : Int} (ex : x = .int i) (ey : y = .int j) : Rn ρ (rI0 g x y) H fun v _ => v = g i j := fun H1 k w Q q => ⟨i, j, ex, ey, q _ H1 .refl w rfl⟩
theorem rn_I {C : Int → Int → Prop} {g : Int → Int → V} {i j : Int} (ex : x = .int i) (ey : y = .int j) (c : C i j) : Rn ρ (rI C g x y) H fun v _ => v = g i j := fun H1 k w Q q => ⟨i, j, ex, ey, c, q _ H1 .refl w rfl⟩
/-- two ints -/
theorem ev_I0 {g : Int → Int → V} {i j : Int} (ha : Rn ρ (ta σ) H fun v _ => v = .int i) (hb : Rn ρ (tb σ) H fun v _ => v = .int j) : Rn ρ (tOp (rI0 g) ta tb σ) H fun v _ => v = g i j :=
  ev_op ha (eq_sp _) hb fun _ _ _ _ _ e1 e2 => rn_I0 e1 e2
theorem ev_I {C : Int → Int → Prop} {g : Int → Int → V} {i j : Int} (c : C i j) (ha : Rn ρ (ta σ) H fun v _ => v = .int i) (hb : Rn ρ (tb σ) H fun v _ => v = .int j) : Rn ρ (tOp (rI C g) ta tb σ) H fun v _ => v = g i j :=
  ev_op ha (eq_sp _) hb fun _ _ _ _ _ e1 e2 => rn_I e1 e2 c
theorem ev_un {g : Int → V} {i : Int} (ha : Rn ρ (ta σ) H fun v _ => v = .int i) : Rn ρ (tUn (rU g) ta σ) H fun v _ => v = g i := fun H1 k w Q q =>
  ha H1 k w _ fun x H2 k2 w2 e => ⟨i, e, q _ H2 k2 w2 rfl⟩
theorem ev_is {z z' : V} (h : Rn ρ (te σ) H fun v _ => v = z) (e : z = z') : Rn ρ (te σ) H fun v _ => v = z' := h.imp fun x _ _ _ p => p.trans e
/-- an item of a tuple -/
theorem ev_ixT {K : PySem.W.Frag} {α : Type} {R : Rl α} {xs : List α} {i : Int} {z : α} (ha : Rn ρ (ta σ) H fun v H => TT R H v xs) (s : Sp_ ρ fun v H => TT R H v xs) (hb : Rn ρ (tb σ) H fun v _ => v = .int i) (hi : atI xs i = some z) :
    Rn ρ (tOp (rIxT K) ta tb σ) H fun v H => R H v z := ev_op ha s hb fun x y H2 k2 w2 p e => fun H3 k3 w3 Q q => by
  obtain ⟨a, vs, ex, ha', pr⟩ := s x H2 H3 k3 p
  obtain ⟨v, hv, rv⟩ := patI pr hi
  exact ⟨a, vs, i, v, ex, e, SqT.of ha', hv, q v H3 .refl w3 rv⟩
end
end Fd
set_option Elab.async false
set_option linter.all false
set_option maxRecDepth 100000
set_option maxHeartbeats 4000000
/-! Rules that the hand layer lacks: sorted and min of data, comparisons of data, repr of data, dicts with tuple keys. -/
namespace Fd
open PySem PySem.Spec PyProof.Rows L2 PySem.W

theorem room65 {k : Nat} {A : Around} (r : Room k A) : A.units + 65 < cLine := by have := r.un; omega

section
variable {X : Cx}
/-- items that read as data, and their values -/
theorem each_of {β : Type} {R : V → β → Prop} : ∀ {vs : List V} {us : List Value} {bs : List β}, Vals vs us → Paired R vs bs → EachIs (fun u b => ∃ v, RelV v u ∧ R v b) us bs
  | _, _, _, .nil, .nil => .nil
  | _, _, _, .cons r t, .cons h q => .cons ⟨_, r, h⟩ (each_of t q)
theorem each_back {β : Type} {R : V → β → Prop} : ∀ {us : List Value} {bs : List β}, EachIs (fun u b => ∃ v, RelV v u ∧ R v b) us bs → ∃ vs, Vals vs us ∧ Paired R vs bs
  | _, _, .nil => ⟨[], .nil, .nil⟩
  | _, _, .cons ⟨v, r, h⟩ t => by
    obtain ⟨vs, q1, q2⟩ := each_back t
    exact ⟨v :: vs, .cons r q1, .cons h q2⟩
/-- what sorted asks of its items -/
structure SortOk {β : Type} (enc : β → PyData) (bs : List β) : Prop where
  al : AllAlike (bs.map enc)
  so : Sortable (bs.map enc)
  dp : ∀ b ∈ bs, (enc b).depth ≤ 60
/-- sorted(xs) of a list of data -/
def rSortD (K : Frag) : List V → Hp → VK → Prop := fun xs H Q => ∃ (a : Addr) (vs : List V) (β : Type) (R : V → β → Prop) (enc : β → PyData) (bs : List β), xs = [.ref a] ∧ SqL K H a vs ∧ Paired R vs bs ∧ (∀ v b, R v b → Dp K H v (enc b)) ∧ SortOk enc bs ∧
  ∀ p out, H p = none → Paired R out (bs.mergeSort (dataLe false enc)) → Q (.ref p) (upd H p (.lst out))
theorem cr_sortedD {k : Nat} (hr : Room k X.A) : CallR X (.builtin "sorted") (rSortD X.K) := by
  intro pins s σ H xs us Q I r h
  obtain ⟨a, vs, β, R, enc, bs, rfl, hs, pr, hd, ok, q⟩ := h
  obtain ⟨its, rv, hl, hz⟩ := I.list hs
  obtain ⟨u, rfl, ru⟩ := vals1 r
  obtain rfl : u = Value.ref a := ru
  have hlen : bs.length ≤ sizeLine := by rw [← plen pr]; exact hz
  have E := each_of rv pr
  refine sorted_data hl.isList E (E.mono fun u b ⟨v, r1, r2⟩ => Dp.reads I (enc b) v u (hd v b r2) r1) ok.al ok.so hlen (fun b hb => ?_) fun out ho eo => ?_
  · have := ok.dp b hb
    have := hr.un
    show X.A.units + 2 + _ < _
    omega
  · obtain ⟨c, hc⟩ := sortedAll_at s.heap its out.toArray
    obtain ⟨ws, w1, w2⟩ := each_back eo
    have hw : ws.length ≤ sizeLine := by rw [w1.length, ho]; exact hlen
    have ob : ObjOk X.prog X.w (upd H (s.heap.objs.size + 1) (.lst ws)) (sortedAll s.heap its out.toArray) (s.heap.objs.size + 1) (.lst ws) := ⟨hw, out, c, w1, hc⟩
    exact ⟨.ref (s.heap.objs.size + 1), _, I.laid (t' := s.toks) (fun b o e => sortedAll_old e) (Nat.le_succ _) ob, rfl, q _ ws (I.hok.fresh (Nat.le_succ _)) w2⟩

/-! ### < and >= of data -/
def rLtD (K : Frag) : R2 := fun x y H Q => ∃ d e, Dp K H x d ∧ Dp K H y e ∧ alike d e = true ∧ d ≠ .none ∧ d.depth ≤ 60 ∧ Q (.bl (dataLt d e)) H
theorem op_ltD {k : Nat} (hr : Room k X.A) : OpR X (compareOp .Lt) (rLtD X.K) := by
  intro pins s σ H x y v u Q I rx ry h
  obtain ⟨d, e, hd, he, al, nn, dp, q⟩ := h
  obtain ⟨as, r1⟩ := Dp.reads I d x v hd rx
  obtain ⟨bs, r2⟩ := Dp.reads I e y u he ry
  have hu : X.A.units + min d.depth e.depth < cLine := by have := hr.un; omega
  exact rcLt_alike d e X.A s v u as bs r1 r2 al nn hu X.prog X.w X.xe _ ⟨.bl _, H, I, rfl, q⟩

/-- x >= y: two ints, or two tuples of ints -/
def geT (ns ms : List Int) : Bool := !decide (ns < ms)
def rGeD (K : Frag) : R2 := fun x y H Q => (∃ i j, x = .int i ∧ y = .int j ∧ Q (.bl (decide (j ≤ i))) H) ∨
  ∃ a b ns ms, x = .ref a ∧ y = .ref b ∧ SqT K H a (ns.map V.int) ∧ SqT K H b (ms.map V.int) ∧ Q (.bl (geT ns ms)) H
theorem lex_shift (e r : Nat → Bool) (z : Bool) : ∀ (k i : Nat), Ob.lexAt e r z (i + 1) k = Ob.lexAt (fun j => e (j + 1)) (fun j => r (j + 1)) z i k
  | 0, _ => rfl
  | k + 1, i => by rw [Ob.lexAt_succ, Ob.lexAt_succ, lex_shift e r z k (i + 1)]
theorem lex_ge : ∀ ns ms : List Int, Ob.lexAt (fun j => decide (ns.getD j 0 = ms.getD j 0)) (fun j => decide (ms.getD j 0 ≤ ns.getD j 0)) (decide (ns.length ≥ ms.length)) 0 (min ns.length ms.length) = geT ns ms
  | [], [] => rfl
  | [], m :: ms => by
    have h : ([] : List Int) < m :: ms := List.nil_lt_cons m ms
    show decide (0 ≥ (m :: ms).length) = !decide (([] : List Int) < m :: ms)
    rw [decide_eq_true h]
    simp
  | n :: ns, [] => by
    have h : ¬ (n :: ns : List Int) < [] := List.not_lt_nil _
    show decide ((n :: ns).length ≥ 0) = !decide ((n :: ns : List Int) < [])
    rw [decide_eq_false h]
    simp
  | n :: ns, m :: ms => by
    have ih := lex_ge ns ms
    have em : min (n :: ns).length (m :: ms).length = min ns.length ms.length + 1 := by simp only [List.length_cons]; omega
    rw [em, Ob.lexAt_succ, lex_shift]
    have e1 : decide ((n :: ns).length ≥ (m :: ms).length) = decide (ns.length ≥ ms.length) := by simp
    rw [e1]
    show (if decide (n = m) = true then Ob.lexAt (fun j => decide (ns.getD j 0 = ms.getD j 0)) (fun j => decide (ms.getD j 0 ≤ ns.getD j 0)) (decide (ns.length ≥ ms.length)) 0 (min ns.length ms.length) else decide (m ≤ n)) = _
    rw [ih]
    unfold geT
    by_cases c : n = m
    · subst c
      rw [if_pos (decide_eq_true rfl)]
      congr 1
      exact decide_eq_decide.mpr (by rw [List.cons_lt_cons_iff]; constructor
                                     · intro h; exact Or.inr ⟨rfl, h⟩
                                     · rintro (h | ⟨_, h⟩)
                                       · omega
                                       · exact h)
    · rw [if_neg (by simp [c])]
      have h : (n :: ns : List Int) < m :: ms ↔ n < m := by
        rw [List.cons_lt_cons_iff]
        constructor
        · rintro (h | ⟨h, _⟩)
          · exact h
          · exact absurd h c
        · exact Or.inl
      rw [decide_eq_decide.mpr h]
      by_cases q : n < m
      · rw [decide_eq_true q, decide_eq_false (by omega)] <;> rfl
      · rw [decide_eq_false q, decide_eq_true (by omega)] <;> rfl
theorem op_geD {k : Nat} (hr : Room k X.A) : OpR X (compareOp .GtE) (rGeD X.K) := by
  intro pins s σ H x y v u Q I rx ry h
  rcases h with ⟨i, j, ex, ey, q⟩ | ⟨a, b, ns, ms, rfl, rfl, ha, hb, q⟩
  · exact op_ge pins s σ H x y v u Q I rx ry ⟨i, j, ex, ey, q⟩
  · cases rx
    cases ry
    obtain ⟨its, r1, p1, _⟩ := I.tuple ha
    obtain ⟨jts, r2, p2, _⟩ := I.tuple hb
    have i1 : IntsAre its ns := Vals.ints r1
    have i2 : IntsAre jts ms := Vals.ints r2
    have s1 : its.toArray.size = ns.length := by rw [List.size_toArray]; exact i1.length
    have s2 : jts.toArray.size = ms.length := by rw [List.size_toArray]; exact i2.length
    have a1 : ∀ j (h1 : j < its.toArray.size), ∃ t, its.toArray[j] = .int (ns.getD j 0) t := fun j h1 => IntsAre.int_at i1 _ _ (by simp at h1; simp [h1])
    have a2 : ∀ j (h1 : j < jts.toArray.size), ∃ t, jts.toArray[j] = .int (ms.getD j 0) t := fun j h1 => IntsAre.int_at i2 _ _ (by simp at h1; simp [h1])
    have G := Ob.RcOp.tuples_ge (A := X.A) (s := s) (e := fun j => decide (ns.getD j 0 = ms.getD j 0)) (r := fun j => decide (ms.getD j 0 ≤ ns.getD j 0)) p1 p2 hr.units0 (fun j h1 h2 => by
      obtain ⟨t, e1⟩ := a1 j h1
      obtain ⟨t', e2⟩ := a2 j h2
      rw [e1, e2, show decide (ns.getD j 0 = ms.getD j 0) = (ns.getD j 0 == ms.getD j 0) from by rw [Bool.beq_eq_decide_eq]]
      exact SeqAt.EqAt.int_int _ _ _ _) (fun j h1 h2 _ => by
      obtain ⟨t, e1⟩ := a1 j h1
      obtain ⟨t', e2⟩ := a2 j h2
      rw [e1, e2]
      exact Ob.RcOp.ge_int _ _ _ _)
    rw [s1, s2, lex_ge] at G
    exact G X.prog X.w X.xe (EP X pins σ Q) ⟨.bl _, H, I, rfl, q⟩

/-! ### dicts whose keys are tuples -/
/-- d.setdefault(key, x), the key a tuple -/
def tDSetdT (td ty tx : TE) : TE := fun σ H Q => td σ H fun x H1 => ∃ a, x = .ref a ∧ IsD H1 a ∧ ty σ H1 fun y H2 => tx σ H2 fun z H3 => ∃ (kvs : List (List Key × V)) (k : List Key) (b : Addr), H3 a = some (.dT kvs) ∧ y = .ref b ∧ H3 b = some (.tup (k.map kV)) ∧
  kvs.length < sizeLine ∧ (∀ v, valV kvs k = some v → Q v H3) ∧ (valV kvs k = none → Q z (upd H3 a (.dT (putK kvs k z))))
theorem d_setdT {pins : List (Addr × Obj)} {σ : L2.St} {H : Hp} {s : Shared} {a b : Addr} {r : Value} {d : V} {k : List Key} {A : Around} {E : Value → Shared → Prop} {kvs : List (List Key × V)} {Q : Value → Shared → Prop} (hu : A.units + 1 < cLine) (I : Inv X pins σ H s)
    (e : H a = some (.dT kvs)) (eb : H b = some (.tup (k.map kV))) (rd : RelV d r) (hl : kvs.length < sizeLine)
    (h1 : ∀ v, valV kvs k = some v → ∀ (w' : Value) (s' : Shared), Inv X pins σ H s' → RelV v w' → Q w' s') (h2 : valV kvs k = none → ∀ (w' : Value) (s' : Shared), Inv X pins σ (upd H a (.dT (putK kvs k d))) s' → RelV d w' → Q w' s') :
    wpAny (model X.prog X.w) A (call (.builtin "dict.setdefault") [.ref a, .ref b, r]) Q E s := by
  obtain ⟨z, hd, xs, rel, dd⟩ := dt_of I.hok e
  have hz : xs.length ≤ sizeLine := by rw [← Paired.length rel]; exact z
  have at_ := rel.val k
  refine call_setdefault_heap (hsz := hz) (tupleKind_room_in1 hu) (key_of I.hok eb) hd dd (fun p hp => ?_) fun hn h' dd' hs => ?_
  · rw [hp] at at_
    cases q0 : valV kvs k with
    | none => rw [q0] at at_; exact (show False from at_).elim
    | some v0 =>
      rw [q0] at at_
      exact h1 v0 q0 _ _ (I.tok _) at_
  · rw [hn] at at_
    cases q0 : valV kvs k with
    | some v0 => rw [q0] at at_; exact (show False from at_).elim
    | none =>
      have hl2 : (putK kvs k d).length ≤ sizeLine := by have := length_putK kvs k d; omega
      obtain ⟨q, es, ep, hq, g2, g3, g4, _, g5⟩ := dd'
      refine h2 q0 _ _ (d_write (t' := s.toks + _) I (by rw [e]; exact True.intro) hs ⟨q, hq⟩ ⟨hl2, hd, _, (rel.put k eb rd).keeps fun c ys ec => ?_, q, es, ep, hq, g2, g3, g4, g5⟩) rd
      rw [upd_ne (ne_of ec e (fun z => nomatch z))]
      exact ec
theorem pe_dsetdT {o e f : Expr} {td ty tx : TE} {apos cpos : Pos} (hu : X.A.units + 1 < cLine) (ho : PE X o td) (he : PE X e ty) (hf : PE X f tx) (m : M2 X o "setdefault" apos e f cpos) :
    PE X (.Call (.Attribute o "setdefault" apos) [e, f] [] cpos) (tDSetdT td ty tx) := by
  refine ⟨fun pins s σ H Q I h => ?_⟩
  refine wpAny_Call_method m.base m.few m.line PySem.F.plainAttrs_dict PySem.F.slot_dict_setdefault PySem.F.type_dict_setdefault (thn (ho.run pins s σ H _ I h) fun u s1 ⟨x, H1, I1, rx, a, ex, d, q1⟩ => ?_)
  subst ex
  obtain rfl : u = Value.ref a := rx
  obtain ⟨t1, t2, _⟩ := isD_at I1 d
  refine ⟨t1, t2, ?_⟩
  rw [m.trees]
  refine Calls.callWith_builtin rfl (Calls.evalArgs_plain (Calls.spliced_cons (thn (he.run pins s1 σ H1 _ I1 q1) fun iv s2 ⟨y, H2, I2, ry, q2⟩ => Calls.spliced_cons (thn (hf.run pins s2 σ H2 _ I2 q2) fun fv s3 ⟨z, H3, I3, rz, q3⟩ => Calls.spliced_nil ?_))))
  obtain ⟨kvs, k, b, ea, rfl, eb, hl, q4, q5⟩ := q3
  cases ry
  exact d_setdT hu I3 ea eb rz hl (fun v hv w' s4 I4 rw' => ⟨v, _, I4, rw', q4 v hv⟩) fun hn w' s4 I4 rw' => ⟨z, _, I4, rw', q5 hn⟩
/-! ### {(..): v}, one pair -/
def tDispT (tk tv : TE) : TE := fun σ H Q => ∀ p, H p = none → tk σ (upd H p (.dT [])) fun y H1 => tv σ H1 fun z H2 => H2 p = some (.dT []) ∧ ∃ (k : List Key) (b : Addr), y = .ref b ∧ H2 b = some (.tup (k.map kV)) ∧ Q (.ref p) (upd H2 p (.dT [(k, z)]))
theorem pe_dispT {ke ve : Expr} {pos : Pos} {tk tv : TE} (hu : X.A.units + 1 < cLine) (hk : PE X ke tk) (hv : PE X ve tv) : PE X (.Dict [some ke] [ve] pos) (tDispT tk tv) := by
  refine ⟨fun pins s σ H Q I q => ?_⟩
  have hn := I.hok.fresh (Nat.le_refl s.heap.objs.size)
  have I1 := I.laid (a := s.heap.objs.size) (o := .dT []) (h' := s.heap.push { cls := .type "dict", data := .dict #[] }) (t' := s.toks) (fun _ _ q => Heap.get?_push_of_some _ q) (Nat.le_refl _) (dt_empty s.heap I.big)
  have hp : PPs X pos [some ke] [ve] [(tk, tv)] := pps_cons hk hv pps_nil
  rw [arm_eval_Dict, zip_pairTrees [some ke] [ve] X.env pos rfl rfl, dictDisplay_pairs _ (by intro z; have := congrArg List.length z; rw [pairTrees_length _ _ _ _ rfl rfl] at this; cases this) (by rw [pairTrees_length _ _ _ _ rfl rfl]; show 1 < 17; decide)]
  refine wpAny_bind (wpAny_standAt (wpAny_bind (wpAny_subDictH (knd := tupleKind (mixKind X.prog X.w)) (Q := fun d s' => wpAny (model X.prog X.w) X.A (pure (Value.ref d)) (EP X pins σ Q) X.xe s') (show X.A.units < cLine by omega) (by rw [pairTrees_length _ _ _ _ rfl rfl]; show 1 ≤ 15; decide)
    (thn (hp.run pins _ σ _ (fun ps H2 => match ps with | [(y, z)] => H2 s.heap.objs.size = some (.dT []) ∧ ∃ (k : List Key) (b : Addr), y = .ref b ∧ H2 b = some (.tup (k.map kV)) ∧ Q (.ref s.heap.objs.size) (upd H2 s.heap.objs.size (.dT [(k, z)])) | _ => False) I1 (q _ hn)) fun ws s2 h2 => ?_))))
  obtain ⟨ps, H2, I2, rel, q2⟩ := h2
  obtain ⟨y, z, rfl, e, k, b, rfl, eb, q2⟩ : ∃ y z, ps = [(y, z)] ∧ H2 s.heap.objs.size = some (.dT []) ∧ ∃ (k : List Key) (b : Addr), y = .ref b ∧ H2 b = some (.tup (k.map kV)) ∧ Q (.ref s.heap.objs.size) (upd H2 s.heap.objs.size (.dT [(k, z)])) := by
    match ps, q2 with
    | [(y, z)], q2 => exact ⟨y, z, rfl, q2⟩
  cases rel with
  | @cons _ r _ _ h t =>
    cases t
    obtain ⟨r1, r2⟩ := r
    obtain ⟨h1, h2⟩ := h
    have h1' : r1 = Value.ref b := h1
    subst h1'
    obtain ⟨z0, hd, xs0, r0, dd⟩ := dt_of I2.hok e
    cases r0
    have ndb : b ≠ s.heap.objs.size := ne_of eb e (fun z => nomatch z)
    refine ⟨[(k, b, r2)], ⟨rfl, rfl, key_of I2.hok eb, trivial⟩, dd, fun h' tk dd' hs => wpAny_pure ⟨.ref s.heap.objs.size, upd H2 s.heap.objs.size (.dT [(k, z)]), ?_, rfl, q2⟩⟩
    have e1 : storedAllH ([] : List (List Key × Addr × Value)) [(k, b, r2)] = [(k, b, r2)] := rfl
    rw [e1] at dd'
    obtain ⟨o, es, ep, g1, g2, g3, g4, g5, g6⟩ := dd'
    exact d_write (t' := tk) I2 (by rw [e]; exact True.intro) hs ⟨o, g1⟩ ⟨by show 1 ≤ sizeLine; decide, hd, [(k, b, r2)], .cons ⟨rfl, by rw [upd_ne ndb]; exact eb, h2⟩ .nil, o, es, ep, g1, g2, g3, g4, g6⟩
/-! ### for k, v in d.items(), the keys tuples -/
theorem frzV {pins : List (Addr × Obj)} {σ : L2.St} {H : Hp} {s : Shared} {d : Addr} {o : Obj} {kvs : List (List Key × V)} (I : Inv X pins σ H s) (h : H d = some (.frz o (.dT kvs))) : (d == sysModules) = false ∧ ∃ es ep, s.heap.DictRaw d es ep ∧ o.data = .dict es ep ∧ es.size = kvs.length ∧
    ∀ (i : Nat) (k : List Key) (v : V), kvs[i]? = some (k, v) → ∃ (en : DictEntry) (q : Addr), es[i]? = some en ∧ en.key = .ref q ∧ H q = some (.tup (k.map kV)) ∧ RelV v en.val := by
  obtain ⟨hd, z, hs, xs, pr, o', es, ep, ho, hx, hdt, he, _⟩ := I.hok d _ h
  rw [hd] at ho
  cases ho
  refine ⟨hs, es, ep, ⟨o, hd, hx, hdt⟩, hdt, ?_, fun i k v e => ?_⟩
  · have l1 : es.size = xs.length := size_of_entries he
    have l2 : kvs.length = xs.length := Paired.length pr
    omega
  · obtain ⟨b, hb, e1, e2, e3⟩ := paired_get pr e
    have q := entry_at he i
    rw [hb] at q
    exact ⟨_, b.2.1, q, rfl, e2, e3⟩
/-- the pairs of the locked dict at d, in their order: a new pair of the key's own tuple and the value -/
def ItiT (d : Addr) (o : Obj) (kvs : List (List Key × V)) : It :=
  ⟨fun i H => H d = some (.frz o (.dT kvs)) ∧ i < kvs.length, fun i H x H' => ∃ (t : Addr) (k : List Key) (v : V) (q : Addr), kvs[i]? = some (k, v) ∧ H q = some (.tup (k.map kV)) ∧ x = .ref t ∧ H t = none ∧ H' = upd H t (.tup [.ref q, v]), fun i H => H d = some (.frz o (.dT kvs)) ∧ kvs.length ≤ i⟩
theorem turn_itemsT {P : Program} {w : World} {d : Addr} {o : Obj} {es : Array DictEntry} {ep : Nat} {kvs : List (List Key × V)} {elts : List Expr} {kk : Nat} {tpos : Pos} {K : Frag} (it : Addr) (hod : o.data = .dict es ep) (hsz : es.size = kvs.length) :
    Turn P w K (.Tuple elts kk tpos) (ItiT d o kvs) [it] it (fun i h => ∃ ok ov, IsItemIter h it d i es.size ep ok ov) where
  mem := by simp
  obj := fun i h st b hb => by
    have e : b = it := by simpa using hb
    subst e
    obtain ⟨ok, ov, e⟩ := st
    exact ⟨_, e, fun v z => nomatch z⟩
  keep := fun i h h' st k => let ⟨ok, ov, e⟩ := st; ⟨ok, ov, k it (by simp) _ e⟩
  item := by
    intro X hP hw hK hc i pins s σ H E I hf st hg
    subst hP hw hK
    obtain ⟨hd, hi⟩ := hg
    obtain ⟨hs, es', ep', hm, hdt, hz, ent⟩ := frzV I hd
    obtain ⟨rfl, rfl⟩ := dict_ep hod hdt
    obtain ⟨⟨k, v⟩, hkv⟩ : ∃ p, kvs[i]? = some p := ⟨kvs[i], List.getElem?_eq_getElem hi⟩
    obtain ⟨en, q, hen, hkey, hq, rv⟩ := ent i k v hkv
    obtain ⟨ok, ov, he⟩ := st
    have hlt : it < s.heap.objs.size := Heap.lt_size he
    have hie : i < es'.size := by omega
    have een : es'[i] = en := by rw [Array.getElem?_eq_getElem hie] at hen; exact Option.some.inj hen
    refine wpAny_pyNext_items_item_raw he hm hie fun h' ho hT hz hk => ?_
    rw [een, hkey] at ho hT
    refine ⟨_, rfl, wpAny_letOwnedTupleGo_items (s := { s with heap := h' }) ho fun h'' he' sb => ?_⟩
    have hT2 : h''.get? s.heap.objs.size = some { cls := .type "tuple", data := .seq #[.ref q, en.val] } := (sb.2 _ (Nat.ne_of_gt hlt)).trans hT
    have new : ObjOk X.prog X.w (upd H s.heap.objs.size (.tup [.ref q, v])) h'' s.heap.objs.size (.tup [.ref q, v]) :=
      ⟨by show 2 ≤ sizeLine; decide, [.ref q, en.val], .cons rfl (.cons rv .nil), ⟨_, hT2, rfl, _, rfl⟩⟩
    have I1 : Inv X pins σ (upd H s.heap.objs.size (.tup [.ref q, v])) { s with heap := h'' } :=
      I.turnedNew (t' := s.toks) (ch := [it]) (fun b ob hb e => (sb.2 b (by simpa using hb)).trans (hk b ob (by simpa using hb) e)) hf (Nat.le_refl _) new
    refine ⟨.ref s.heap.objs.size, _, I1, rfl, ⟨_, k, v, q, hkv, hq, rfl, I.hok.fresh (Nat.le_refl _), rfl⟩, ⟨_, _, he'⟩, fun b hb => ?_⟩
    have e : b = it := by simpa using hb
    rw [e, upd_ne (Nat.ne_of_lt hlt)]
    exact (hf it (by simp)).1
  done := by
    intro X hP hw hK hc i pins s σ H E I hf st hg
    subst hP hw hK
    obtain ⟨hd, hi⟩ := hg
    obtain ⟨f0, f1, f2, f3, f4, f5⟩ := hf it (by simp)
    obtain ⟨hs, es', ep', hm, hdt, hz, ent⟩ := frzV I hd
    obtain ⟨rfl, rfl⟩ := dict_ep hod hdt
    obtain ⟨ok, ov, he⟩ := st
    exact wpAny_pyNext_items_end_raw (I.ok.hd hc) he hm (by omega) fun h' eb => ⟨rfl, I.turned (t' := s.toks) (fun b ob hb e => eb b ob hb e) f0 f1 f3 f4 f5⟩
  self := fun A i s Q E st h => let ⟨_, _, e⟩ := st; kcp_self e h
def iItemsT (td : TE) : L2.TI := fun σ H R => td σ H fun x H1 => ∃ d o kvs, x = .ref d ∧ H1 d = some (.frz o (.dT kvs)) ∧ R (ItiT d o kvs) H1
theorem pi_itemsT {e : Expr} {td : TE} {apos cpos : Pos} {elts : List Expr} {kk : Nat} {tpos : Pos} (he : PE X e td) (hbase : attributeBase e "items" X.env (eval e X.env) = eval e X.env := by rfl) (hline : (apos.endLine == cpos.line) = true := by rfl) :
    PI X (.Tuple elts kk tpos) (.Call (.Attribute e "items" apos) [] [] cpos) (iItemsT td) := by
  refine ⟨fun pins s σ H R I h => ?_⟩
  refine wpAny_Call_method (T := "dict") (id := "dict.items") hbase rfl hline F.plainAttrs_dict F.slot_dict_items F.type_dict_items (thn (he.run pins s σ H _ I h) fun u s1 ⟨x, H1, I1, rx, d, o, kvs, ex, hd, q⟩ => ?_)
  subst ex
  obtain rfl : u = Value.ref d := rx
  obtain ⟨hs, es, ep, hm, hdt, hz, ent⟩ := frzV I1 hd
  refine ⟨hm.typeIs, (isD_at I1 (.inr ⟨kvs, .inr ⟨o, hd⟩⟩)).2.1, ?_⟩
  have I2 : Inv X pins σ H1 { s1 with heap := s1.heap.push { cls := .type "dict_items", data := .fields #[.ref d] } } := I1.kept (t' := s1.toks) fun b ob q => Heap.get?_push_of_some _ q
  have hm2 : (s1.heap.push { cls := .type "dict_items", data := .fields #[.ref d] }).DictRaw d es ep := hm.at fun o q => Heap.get?_push_of_some _ q
  have fin : wpAny (model X.prog X.w) X.A (pyIter (.ref s1.heap.objs.size)) (PIE X pins σ (.Tuple elts kk tpos) R) X.xe { s1 with heap := s1.heap.push { cls := .type "dict_items", data := .fields #[.ref d] } } := by
    refine wpAny_pyIter_items_raw (d := d) ⟨_, Heap.get?_push_size _ rfl, rfl, rfl⟩ hm2 (pi_one (tk := s1.toks) I2 _ (turn_itemsT _ hdt hz) ⟨.none, .none, Heap.get?_push_size _ rfl⟩ q)
  show wpAny _ _ (callWith cpos (.builtin "dict.items") [.ref d] [] []) _ X.xe s1
  exact method_meetsIn F.slot_dict_items F.entry_dict_items rfl (PySem.evalArgs_none ⟨rfl, hm.typeIs, F.args_dict_items_1 _, _, meets_dict_items_raw d hs, ⟨es, ep, hm⟩, fin⟩)
/-! ### rules within a comprehension: the written part is named, not taken from the context -/
theorem lenK (K : Frag) (h : X.K = K) : CallR X (.builtin "len") (fun xs H Q => ∃ x n, xs = [x] ∧ LenV K x H n ∧ Q (.int n) H) := by rw [← h]; exact call_len
theorem ix_tupK (K : Frag) (h : X.K = K) : IxR X (rIxT K) := by rw [← h]; exact ix_tup
theorem ix_listK (K : Frag) (h : X.K = K) : IxR X (rIxL K) := by rw [← h]; exact ix_list
theorem op_catAK (K : Frag) (h : X.K = K) : OpR X (binaryOp .Add) (rCatA K) := by rw [← h]; exact op_catA
theorem mt_indexDK (K : Frag) (h : X.K = K) (hu : X.A.units + 65 < cLine) : MtR X "list.index" (rIndexD K) := by rw [← h]; exact mt_indexD hu
theorem pi_tupK (K : Frag) (h : X.K = K) {tg iter : Expr} {tl : TE} (ha : PE X iter tl) : PI X tg iter (iTup K tl) := by rw [← h]; exact pi_tup ha
theorem pi_listK (K : Frag) (h : X.K = K) {tg iter : Expr} {tl : TE} (ha : PE X iter tl) : PI X tg iter (iList K tl) := by rw [← h]; exact pi_list ha
theorem pe_fldK (K : Frag) (h : X.K = K) {e : Expr} {f : Str} {pos : Pos} {ta : TE} (he : PE X e ta) (hb : attributeBase e f X.env (eval e X.env) = eval e X.env) : PE X (.Attribute e f pos) (tFld K ta f) := by rw [← h]; exact pe_fld he hb
end
end Fd
set_option Elab.async false
set_option linter.all false
set_option maxRecDepth 100000
set_option maxHeartbeats 4000000
namespace Fd
open PySem PySem.Spec PyProof.Rows L2
def top (i : Nat) : Stmt := PySem.Challenge.pw_falsedays_k90_shop_refused.main.body.getD i (.Pass ⟨0, 0, 0, 0⟩)
abbrev s_is_integer : Stmt := top 12
abbrev N_is_integer : List Str := ["thing"]
abbrev P_is_integer : List Str := ["thing"]
theorem sc_is_integer : FnScope N_is_integer P_is_integer (defScope s_is_integer) := ⟨rfl, rfl, rfl, by decide +kernel, rfl, by decide +kernel, by decide +kernel⟩
abbrev s_is_within : Stmt := top 13
abbrev N_is_within : List Str := ["thing", "least", "most"]
abbrev P_is_within : List Str := ["thing", "least", "most"]
theorem sc_is_within : FnScope N_is_within P_is_within (defScope s_is_within) := ⟨rfl, rfl, rfl, by decide +kernel, rfl, by decide +kernel, by decide +kernel⟩
abbrev s_is_pair : Stmt := top 14
abbrev N_is_pair : List Str := ["thing"]
abbrev P_is_pair : List Str := ["thing"]
theorem sc_is_pair : FnScope N_is_pair P_is_pair (defScope s_is_pair) := ⟨rfl, rfl, rfl, by decide +kernel, rfl, by decide +kernel, by decide +kernel⟩
abbrev s_is_triple : Stmt := top 15
abbrev N_is_triple : List Str := ["thing"]
abbrev P_is_triple : List Str := ["thing"]
theorem sc_is_triple : FnScope N_is_triple P_is_triple (defScope s_is_triple) := ⟨rfl, rfl, rfl, by decide +kernel, rfl, by decide +kernel, by decide +kernel⟩
abbrev s_are_ascending : Stmt := top 16
abbrev N_are_ascending : List Str := ["things", "at"]
abbrev P_are_ascending : List Str := ["things"]
theorem sc_are_ascending : FnScope N_are_ascending P_are_ascending (defScope s_are_ascending) := ⟨rfl, rfl, rfl, by decide +kernel, rfl, by decide +kernel, by decide +kernel⟩
abbrev s_are_sizes : Stmt := top 20
abbrev N_are_sizes : List Str := ["thing", "size"]
abbrev P_are_sizes : List Str := ["thing"]
theorem sc_are_sizes : FnScope N_are_sizes P_are_sizes (defScope s_are_sizes) := ⟨rfl, rfl, rfl, by decide +kernel, rfl, by decide +kernel, by decide +kernel⟩
abbrev s_is_move : Stmt := top 21
abbrev N_is_move : List Str := ["sizes", "many", "thing", "slips", "answers", "marks"]
abbrev P_is_move : List Str := ["sizes", "many", "thing"]
theorem sc_is_move : FnScope N_is_move P_is_move (defScope s_is_move) := ⟨rfl, rfl, rfl, by decide +kernel, rfl, by decide +kernel, by decide +kernel⟩
abbrev s_are_moves : Stmt := top 22
abbrev N_are_moves : List Str := ["sizes", "thing", "row", "move"]
abbrev P_are_moves : List Str := ["sizes", "thing"]
theorem sc_are_moves : FnScope N_are_moves P_are_moves (defScope s_are_moves) := ⟨rfl, rfl, rfl, by decide +kernel, rfl, by decide +kernel, by decide +kernel⟩
abbrev s_are_closings : Stmt := top 23
abbrev N_are_closings : List Str := ["sizes", "many", "thing", "row", "mark"]
abbrev P_are_closings : List Str := ["sizes", "many", "thing"]
theorem sc_are_closings : FnScope N_are_closings P_are_closings (defScope s_are_closings) := ⟨rfl, rfl, rfl, by decide +kernel, rfl, by decide +kernel, by decide +kernel⟩
abbrev s_Office_init : Stmt := inClass (top 24) 0
abbrev N_Office_init : List Str := ["self", "sizes", "moves", "closings"]
abbrev P_Office_init : List Str := ["self", "sizes", "moves", "closings"]
theorem sc_Office_init : FnScope N_Office_init P_Office_init (defScope s_Office_init) := ⟨rfl, rfl, rfl, by decide +kernel, rfl, by decide +kernel, by decide +kernel⟩
abbrev s_Office_keep : Stmt := inClass (top 24) 1
abbrev N_Office_keep : List Str := ["self", "sizes", "moves", "closings", "row", "goals", "slip", "answer", "mark", "goal"]
abbrev P_Office_keep : List Str := ["self", "sizes", "moves", "closings"]
theorem sc_Office_keep : FnScope N_Office_keep P_Office_keep (defScope s_Office_keep) := ⟨rfl, rfl, rfl, by decide +kernel, rfl, by decide +kernel, by decide +kernel⟩
abbrev s_Office_eq : Stmt := inClass (top 24) 2
abbrev N_Office_eq : List Str := ["self", "other"]
abbrev P_Office_eq : List Str := ["self", "other"]
theorem sc_Office_eq : FnScope N_Office_eq P_Office_eq (defScope s_Office_eq) := ⟨rfl, rfl, rfl, by decide +kernel, rfl, by decide +kernel, by decide +kernel⟩
abbrev s_RawOffice_init : Stmt := inClass (top 25) 0
abbrev N_RawOffice_init : List Str := ["self", "sizes", "moves", "closings"]
abbrev P_RawOffice_init : List Str := ["self", "sizes", "moves", "closings"]
theorem sc_RawOffice_init : FnScope N_RawOffice_init P_RawOffice_init (defScope s_RawOffice_init) := ⟨rfl, rfl, rfl, by decide +kernel, rfl, by decide +kernel, by decide +kernel⟩
abbrev s_is_mark : Stmt := top 26
abbrev N_is_mark : List Str := ["office", "thing"]
abbrev P_is_mark : List Str := ["office", "thing"]
theorem sc_is_mark : FnScope N_is_mark P_is_mark (defScope s_is_mark) := ⟨rfl, rfl, rfl, by decide +kernel, rfl, by decide +kernel, by decide +kernel⟩
abbrev s_is_note : Stmt := top 27
abbrev N_is_note : List Str := ["office", "thing"]
abbrev P_is_note : List Str := ["office", "thing"]
theorem sc_is_note : FnScope N_is_note P_is_note (defScope s_is_note) := ⟨rfl, rfl, rfl, by decide +kernel, rfl, by decide +kernel, by decide +kernel⟩
abbrev s_is_step : Stmt := top 28
abbrev N_is_step : List Str := ["office", "thing"]
abbrev P_is_step : List Str := ["office", "thing"]
theorem sc_is_step : FnScope N_is_step P_is_step (defScope s_is_step) := ⟨rfl, rfl, rfl, by decide +kernel, rfl, by decide +kernel, by decide +kernel⟩
abbrev s_with_item : Stmt := top 55
abbrev N_with_item : List Str := ["row", "item"]
abbrev P_with_item : List Str := ["row", "item"]
theorem sc_with_item : FnScope N_with_item P_with_item (defScope s_with_item) := ⟨rfl, rfl, rfl, by decide +kernel, rfl, by decide +kernel, by decide +kernel⟩
abbrev s_exchanged : Stmt := top 56
abbrev N_exchanged : List Str := ["rows", "at", "row"]
abbrev P_exchanged : List Str := ["rows", "at", "row"]
theorem sc_exchanged : FnScope N_exchanged P_exchanged (defScope s_exchanged) := ⟨rfl, rfl, rfl, by decide +kernel, rfl, by decide +kernel, by decide +kernel⟩
abbrev s_Shop_init : Stmt := inClass (top 57) 0
abbrev N_Shop_init : List Str := ["self", "office"]
abbrev P_Shop_init : List Str := ["self", "office"]
theorem sc_Shop_init : FnScope N_Shop_init P_Shop_init (defScope s_Shop_init) := ⟨rfl, rfl, rfl, by decide +kernel, rfl, by decide +kernel, by decide +kernel⟩
abbrev s_Shop_check_standing : Stmt := inClass (top 57) 1
abbrev N_Shop_check_standing : List Str := ["self", "thing"]
abbrev P_Shop_check_standing : List Str := ["self", "thing"]
theorem sc_Shop_check_standing : FnScope N_Shop_check_standing P_Shop_check_standing (defScope s_Shop_check_standing) := ⟨rfl, rfl, rfl, by decide +kernel, rfl, by decide +kernel, by decide +kernel⟩
abbrev s_Shop_check_mark : Stmt := inClass (top 57) 2
abbrev N_Shop_check_mark : List Str := ["self", "thing"]
abbrev P_Shop_check_mark : List Str := ["self", "thing"]
theorem sc_Shop_check_mark : FnScope N_Shop_check_mark P_Shop_check_mark (defScope s_Shop_check_mark) := ⟨rfl, rfl, rfl, by decide +kernel, rfl, by decide +kernel, by decide +kernel⟩
abbrev s_Shop_change : Stmt := inClass (top 57) 3
abbrev N_Shop_change : List Str := ["self", "moves", "closings", "made"]
abbrev P_Shop_change : List Str := ["self", "moves", "closings"]
theorem sc_Shop_change : FnScope N_Shop_change P_Shop_change (defScope s_Shop_change) := ⟨rfl, rfl, rfl, by decide +kernel, rfl, by decide +kernel, by decide +kernel⟩
abbrev s_Shop_put : Stmt := inClass (top 57) 4
abbrev N_Shop_put : List Str := ["self", "standing", "slip", "answer", "mark", "goal", "moves", "row"]
abbrev P_Shop_put : List Str := ["self", "standing", "slip", "answer", "mark", "goal"]
theorem sc_Shop_put : FnScope N_Shop_put P_Shop_put (defScope s_Shop_put) := ⟨rfl, rfl, rfl, by decide +kernel, rfl, by decide +kernel, by decide +kernel⟩
abbrev s_Shop_strike : Stmt := inClass (top 57) 5
abbrev N_Shop_strike : List Str := ["self", "standing", "index", "moves", "row"]
abbrev P_Shop_strike : List Str := ["self", "standing", "index"]
theorem sc_Shop_strike : FnScope N_Shop_strike P_Shop_strike (defScope s_Shop_strike) := ⟨rfl, rfl, rfl, by decide +kernel, rfl, by decide +kernel, by decide +kernel⟩
abbrev s_Shop_add : Stmt := inClass (top 57) 6
abbrev N_Shop_add : List Str := ["self"]
abbrev P_Shop_add : List Str := ["self"]
theorem sc_Shop_add : FnScope N_Shop_add P_Shop_add (defScope s_Shop_add) := ⟨rfl, rfl, rfl, by decide +kernel, rfl, by decide +kernel, by decide +kernel⟩
abbrev s_Shop_shuts : Stmt := inClass (top 57) 7
abbrev N_Shop_shuts : List Str := ["self", "standing", "mark", "closings"]
abbrev P_Shop_shuts : List Str := ["self", "standing", "mark"]
theorem sc_Shop_shuts : FnScope N_Shop_shuts P_Shop_shuts (defScope s_Shop_shuts) := ⟨rfl, rfl, rfl, by decide +kernel, rfl, by decide +kernel, by decide +kernel⟩
abbrev s_Shop_shuts_not : Stmt := inClass (top 57) 8
abbrev N_Shop_shuts_not : List Str := ["self", "standing", "mark", "closings", "row", "left", "other"]
abbrev P_Shop_shuts_not : List Str := ["self", "standing", "mark"]
theorem sc_Shop_shuts_not : FnScope N_Shop_shuts_not P_Shop_shuts_not (defScope s_Shop_shuts_not) := ⟨rfl, rfl, rfl, by decide +kernel, rfl, by decide +kernel, by decide +kernel⟩
abbrev s_Shop_office : Stmt := inClass (top 57) 9
abbrev N_Shop_office : List Str := ["self"]
abbrev P_Shop_office : List Str := ["self"]
theorem sc_Shop_office : FnScope N_Shop_office P_Shop_office (defScope s_Shop_office) := ⟨rfl, rfl, rfl, by decide +kernel, rfl, by decide +kernel, by decide +kernel⟩
abbrev s_Shop_back : Stmt := inClass (top 57) 11
abbrev N_Shop_back : List Str := ["self"]
abbrev P_Shop_back : List Str := ["self"]
theorem sc_Shop_back : FnScope N_Shop_back P_Shop_back (defScope s_Shop_back) := ⟨rfl, rfl, rfl, by decide +kernel, rfl, by decide +kernel, by decide +kernel⟩
abbrev s_Shop_depth : Stmt := inClass (top 57) 12
abbrev N_Shop_depth : List Str := ["self"]
abbrev P_Shop_depth : List Str := ["self"]
theorem sc_Shop_depth : FnScope N_Shop_depth P_Shop_depth (defScope s_Shop_depth) := ⟨rfl, rfl, rfl, by decide +kernel, rfl, by decide +kernel, by decide +kernel⟩
abbrev s_moves_by_slip : Stmt := top 59
abbrev N_moves_by_slip : List Str := ["row", "found", "move"]
abbrev P_moves_by_slip : List Str := ["row"]
theorem sc_moves_by_slip : FnScope N_moves_by_slip P_moves_by_slip (defScope s_moves_by_slip) := ⟨rfl, rfl, rfl, by decide +kernel, rfl, by decide +kernel, by decide +kernel⟩
abbrev s_joint_moves : Stmt := top 60
abbrev N_joint_moves : List Str := ["one_office", "other_office", "pair", "answers", "marks", "taken", "found", "slip", "middle", "mark", "goal", "_", "answer", "other_mark", "other_goal", "step"]
abbrev P_joint_moves : List Str := ["one_office", "other_office", "pair"]
theorem sc_joint_moves : FnScope N_joint_moves P_joint_moves (defScope s_joint_moves) := ⟨rfl, rfl, rfl, by decide +kernel, rfl, by decide +kernel, by decide +kernel⟩
abbrev s_joint_lasts : Stmt := top 61
abbrev N_joint_lasts : List Str := ["one_office", "other_office", "pair", "marks", "lasts", "mark", "other"]
abbrev P_joint_lasts : List Str := ["one_office", "other_office", "pair"]
theorem sc_joint_lasts : FnScope N_joint_lasts P_joint_lasts (defScope s_joint_lasts) := ⟨rfl, rfl, rfl, by decide +kernel, rfl, by decide +kernel, by decide +kernel⟩
abbrev s_chained : Stmt := top 62
abbrev N_chained : List Str := ["one_office", "other_office", "numbers", "pairs", "moves", "closings", "pair", "row", "step", "goal", "answers", "marks"]
abbrev P_chained : List Str := ["one_office", "other_office"]
theorem sc_chained : FnScope N_chained P_chained (defScope s_chained) := ⟨rfl, rfl, rfl, by decide +kernel, rfl, by decide +kernel, by decide +kernel⟩
abbrev s_l_hand : Stmt := top 64
abbrev N_l_hand : List Str := ["_law_script", "_law_cells", "_law_cell"]
abbrev P_l_hand : List Str := ["_law_script"]
theorem sc_l_hand : FnScope N_l_hand P_l_hand (defScope s_l_hand) := ⟨rfl, rfl, rfl, by decide +kernel, rfl, by decide +kernel, by decide +kernel⟩
abbrev s_l_draw : Stmt := top 65
abbrev N_l_draw : List Str := ["_law_hand_here", "_law_many", "_law_cell", "_law_digit", "_law_number"]
abbrev P_l_draw : List Str := ["_law_hand_here", "_law_many"]
theorem sc_l_draw : FnScope N_l_draw P_l_draw (defScope s_l_draw) := ⟨rfl, rfl, rfl, by decide +kernel, rfl, by decide +kernel, by decide +kernel⟩
abbrev s_l_sizes : Stmt := top 66
abbrev N_l_sizes : List Str := ["_law_hand_here", "_law_most"]
abbrev P_l_sizes : List Str := ["_law_hand_here", "_law_most"]
theorem sc_l_sizes : FnScope N_l_sizes P_l_sizes (defScope s_l_sizes) := ⟨rfl, rfl, rfl, by decide +kernel, rfl, by decide +kernel, by decide +kernel⟩
abbrev s_l_moves : Stmt := top 67
abbrev N_l_moves : List Str := ["_law_hand_here", "_law_sizes_here", "_law_many", "_law_found", "_law_standing", "_law_row", "_law_slip", "_law_turn"]
abbrev P_l_moves : List Str := ["_law_hand_here", "_law_sizes_here", "_law_many"]
theorem sc_l_moves : FnScope N_l_moves P_l_moves (defScope s_l_moves) := ⟨rfl, rfl, rfl, by decide +kernel, rfl, by decide +kernel, by decide +kernel⟩
abbrev s_l_closings : Stmt := top 68
abbrev N_l_closings : List Str := ["_law_hand_here", "_law_sizes_here", "_law_many", "_law_found", "_law_standing", "_law_mark"]
abbrev P_l_closings : List Str := ["_law_hand_here", "_law_sizes_here", "_law_many"]
theorem sc_l_closings : FnScope N_l_closings P_l_closings (defScope s_l_closings) := ⟨rfl, rfl, rfl, by decide +kernel, rfl, by decide +kernel, by decide +kernel⟩
abbrev s_l_office : Stmt := top 69
abbrev N_l_office : List Str := ["_law_hand_here", "_law_sizes_here", "_law_most", "_law_many"]
abbrev P_l_office : List Str := ["_law_hand_here", "_law_sizes_here", "_law_most"]
theorem sc_l_office : FnScope N_l_office P_l_office (defScope s_l_office) := ⟨rfl, rfl, rfl, by decide +kernel, rfl, by decide +kernel, by decide +kernel⟩
abbrev s_l_asked : Stmt := top 70
abbrev N_l_asked : List Str := ["_law_kind", "_law_shop", "_law_things", "_law_told", "e", "_law_flags"]
abbrev P_l_asked : List Str := ["_law_kind", "_law_shop", "_law_things"]
theorem sc_l_asked : FnScope N_l_asked P_l_asked (defScope s_l_asked) := ⟨rfl, rfl, rfl, by decide +kernel, rfl, by decide +kernel, by decide +kernel⟩
abbrev s_l_part : Stmt := top 71
abbrev N_l_part : List Str := ["_law_kind", "_law_shop", "_law_things", "_law_told", "e"]
abbrev P_l_part : List Str := ["_law_kind", "_law_shop", "_law_things"]
theorem sc_l_part : FnScope N_l_part P_l_part (defScope s_l_part) := ⟨rfl, rfl, rfl, by decide +kernel, rfl, by decide +kernel, by decide +kernel⟩
abbrev s_l_run : Stmt := top 72
abbrev N_l_run : List Str := ["_law_kind", "_law_shop", "_law_things"]
abbrev P_l_run : List Str := ["_law_kind", "_law_shop", "_law_things"]
theorem sc_l_run : FnScope N_l_run P_l_run (defScope s_l_run) := ⟨rfl, rfl, rfl, by decide +kernel, rfl, by decide +kernel, by decide +kernel⟩
abbrev s_l_odd : Stmt := top 73
abbrev N_l_odd : List Str := ["_law_hand_here", "_law_many", "_law_office_here", "_law_nested", "_law_turn", "_law_things"]
abbrev P_l_odd : List Str := ["_law_hand_here", "_law_many", "_law_office_here"]
theorem sc_l_odd : FnScope N_l_odd P_l_odd (defScope s_l_odd) := ⟨rfl, rfl, rfl, by decide +kernel, rfl, by decide +kernel, by decide +kernel⟩
abbrev s_l_kept : Stmt := top 74
abbrev N_l_kept : List Str := ["_law_shop", "_law_seen", "_law_office_here"]
abbrev P_l_kept : List Str := ["_law_shop", "_law_seen"]
theorem sc_l_kept : FnScope N_l_kept P_l_kept (defScope s_l_kept) := ⟨rfl, rfl, rfl, by decide +kernel, rfl, by decide +kernel, by decide +kernel⟩
abbrev s_l_bad : Stmt := top 75
abbrev N_l_bad : List Str := ["_law_hand_here", "_law_shop", "_law_office_here", "_law_many", "_law_seen", "_law_at", "_law_move", "_law_right", "_law_limits", "_law_wrong", "_law_things", "_law_due", "_law_kind", "_law_limit", "_law_word", "_law_odd_here", "_law_outside", "_law_mark", "_law_item", "_law_size", "_law_place", "_law_flag"]
abbrev P_l_bad : List Str := ["_law_hand_here", "_law_shop"]
theorem sc_l_bad : FnScope N_l_bad P_l_bad (defScope s_l_bad) := ⟨rfl, rfl, rfl, by decide +kernel, rfl, by decide +kernel, by decide +kernel⟩
abbrev s_l_beyond : Stmt := top 76
abbrev N_l_beyond : List Str := ["_law_hand_here", "_law_full", "_law_one", "_law_chain", "_law_shop"]
abbrev P_l_beyond : List Str := ["_law_hand_here"]
theorem sc_l_beyond : FnScope N_l_beyond P_l_beyond (defScope s_l_beyond) := ⟨rfl, rfl, rfl, by decide +kernel, rfl, by decide +kernel, by decide +kernel⟩
abbrev s_law : Stmt := top 77
abbrev N_law : List Str := ["_law_script", "_law_hand_here", "_law_office_here", "_law_turn", "_law_shop"]
abbrev P_law : List Str := ["_law_script"]
theorem sc_law : FnScope N_law P_law (defScope s_law) := ⟨rfl, rfl, rfl, by decide +kernel, rfl, by decide +kernel, by decide +kernel⟩
structure Txt (K : PySem.W.Frag) (mg : Str → Option Value) where
  (a_is_integer : Addr) (d_is_integer : FuncData)
  F_is_integer : Fun K "is_integer" "is_integer" s_is_integer a_is_integer d_is_integer
  b_is_integer : Binds K d_is_integer P_is_integer []
  g_is_integer : mg "is_integer" = some (.ref a_is_integer)
  k_is_integer : PySem.W.keepIn K (.ref a_is_integer) = true
  (a_is_within : Addr) (d_is_within : FuncData)
  F_is_within : Fun K "is_within" "is_within" s_is_within a_is_within d_is_within
  b_is_within : Binds K d_is_within P_is_within []
  g_is_within : mg "is_within" = some (.ref a_is_within)
  k_is_within : PySem.W.keepIn K (.ref a_is_within) = true
  (a_is_pair : Addr) (d_is_pair : FuncData)
  F_is_pair : Fun K "is_pair" "is_pair" s_is_pair a_is_pair d_is_pair
  b_is_pair : Binds K d_is_pair P_is_pair []
  g_is_pair : mg "is_pair" = some (.ref a_is_pair)
  k_is_pair : PySem.W.keepIn K (.ref a_is_pair) = true
  (a_is_triple : Addr) (d_is_triple : FuncData)
  F_is_triple : Fun K "is_triple" "is_triple" s_is_triple a_is_triple d_is_triple
  b_is_triple : Binds K d_is_triple P_is_triple []
  g_is_triple : mg "is_triple" = some (.ref a_is_triple)
  k_is_triple : PySem.W.keepIn K (.ref a_is_triple) = true
  (a_are_ascending : Addr) (d_are_ascending : FuncData)
  F_are_ascending : Fun K "are_ascending" "are_ascending" s_are_ascending a_are_ascending d_are_ascending
  b_are_ascending : Binds K d_are_ascending P_are_ascending []
  g_are_ascending : mg "are_ascending" = some (.ref a_are_ascending)
  k_are_ascending : PySem.W.keepIn K (.ref a_are_ascending) = true
  (a_are_sizes : Addr) (d_are_sizes : FuncData)
  F_are_sizes : Fun K "are_sizes" "are_sizes" s_are_sizes a_are_sizes d_are_sizes
  b_are_sizes : Binds K d_are_sizes P_are_sizes []
  g_are_sizes : mg "are_sizes" = some (.ref a_are_sizes)
  k_are_sizes : PySem.W.keepIn K (.ref a_are_sizes) = true
  (a_is_move : Addr) (d_is_move : FuncData)
  F_is_move : Fun K "is_move" "is_move" s_is_move a_is_move d_is_move
  b_is_move : Binds K d_is_move P_is_move []
  g_is_move : mg "is_move" = some (.ref a_is_move)
  k_is_move : PySem.W.keepIn K (.ref a_is_move) = true
  (a_are_moves : Addr) (d_are_moves : FuncData)
  F_are_moves : Fun K "are_moves" "are_moves" s_are_moves a_are_moves d_are_moves
  b_are_moves : Binds K d_are_moves P_are_moves []
  g_are_moves : mg "are_moves" = some (.ref a_are_moves)
  k_are_moves : PySem.W.keepIn K (.ref a_are_moves) = true
  (a_are_closings : Addr) (d_are_closings : FuncData)
  F_are_closings : Fun K "are_closings" "are_closings" s_are_closings a_are_closings d_are_closings
  b_are_closings : Binds K d_are_closings P_are_closings []
  g_are_closings : mg "are_closings" = some (.ref a_are_closings)
  k_are_closings : PySem.W.keepIn K (.ref a_are_closings) = true
  (a_Office_init : Addr) (d_Office_init : FuncData)
  F_Office_init : Fun K "__init__" "Office.__init__" s_Office_init a_Office_init d_Office_init
  b_Office_init : Binds K d_Office_init P_Office_init []
  (a_Office_keep : Addr) (d_Office_keep : FuncData)
  F_Office_keep : Fun K "keep" "Office.keep" s_Office_keep a_Office_keep d_Office_keep
  b_Office_keep : Binds K d_Office_keep P_Office_keep []
  (a_Office_eq : Addr) (d_Office_eq : FuncData)
  F_Office_eq : Fun K "__eq__" "Office.__eq__" s_Office_eq a_Office_eq d_Office_eq
  b_Office_eq : Binds K d_Office_eq P_Office_eq []
  (a_RawOffice_init : Addr) (d_RawOffice_init : FuncData)
  F_RawOffice_init : Fun K "__init__" "RawOffice.__init__" s_RawOffice_init a_RawOffice_init d_RawOffice_init
  b_RawOffice_init : Binds K d_RawOffice_init P_RawOffice_init []
  (a_is_mark : Addr) (d_is_mark : FuncData)
  F_is_mark : Fun K "is_mark" "is_mark" s_is_mark a_is_mark d_is_mark
  b_is_mark : Binds K d_is_mark P_is_mark []
  g_is_mark : mg "is_mark" = some (.ref a_is_mark)
  k_is_mark : PySem.W.keepIn K (.ref a_is_mark) = true
  (a_is_note : Addr) (d_is_note : FuncData)
  F_is_note : Fun K "is_note" "is_note" s_is_note a_is_note d_is_note
  b_is_note : Binds K d_is_note P_is_note []
  g_is_note : mg "is_note" = some (.ref a_is_note)
  k_is_note : PySem.W.keepIn K (.ref a_is_note) = true
  (a_is_step : Addr) (d_is_step : FuncData)
  F_is_step : Fun K "is_step" "is_step" s_is_step a_is_step d_is_step
  b_is_step : Binds K d_is_step P_is_step []
  g_is_step : mg "is_step" = some (.ref a_is_step)
  k_is_step : PySem.W.keepIn K (.ref a_is_step) = true
  (a_with_item : Addr) (d_with_item : FuncData)
  F_with_item : Fun K "with_item" "with_item" s_with_item a_with_item d_with_item
  b_with_item : Binds K d_with_item P_with_item []
  g_with_item : mg "with_item" = some (.ref a_with_item)
  k_with_item : PySem.W.keepIn K (.ref a_with_item) = true
  (a_exchanged : Addr) (d_exchanged : FuncData)
  F_exchanged : Fun K "exchanged" "exchanged" s_exchanged a_exchanged d_exchanged
  b_exchanged : Binds K d_exchanged P_exchanged []
  g_exchanged : mg "exchanged" = some (.ref a_exchanged)
  k_exchanged : PySem.W.keepIn K (.ref a_exchanged) = true
  (a_Shop_init : Addr) (d_Shop_init : FuncData)
  F_Shop_init : Fun K "__init__" "Shop.__init__" s_Shop_init a_Shop_init d_Shop_init
  b_Shop_init : Binds K d_Shop_init P_Shop_init []
  (a_Shop_check_standing : Addr) (d_Shop_check_standing : FuncData)
  F_Shop_check_standing : Fun K "check_standing" "Shop.check_standing" s_Shop_check_standing a_Shop_check_standing d_Shop_check_standing
  b_Shop_check_standing : Binds K d_Shop_check_standing P_Shop_check_standing []
  (a_Shop_check_mark : Addr) (d_Shop_check_mark : FuncData)
  F_Shop_check_mark : Fun K "check_mark" "Shop.check_mark" s_Shop_check_mark a_Shop_check_mark d_Shop_check_mark
  b_Shop_check_mark : Binds K d_Shop_check_mark P_Shop_check_mark []
  (a_Shop_change : Addr) (d_Shop_change : FuncData)
  F_Shop_change : Fun K "change" "Shop.change" s_Shop_change a_Shop_change d_Shop_change
  b_Shop_change : Binds K d_Shop_change P_Shop_change []
  (a_Shop_put : Addr) (d_Shop_put : FuncData)
  F_Shop_put : Fun K "put" "Shop.put" s_Shop_put a_Shop_put d_Shop_put
  b_Shop_put : Binds K d_Shop_put P_Shop_put []
  (a_Shop_strike : Addr) (d_Shop_strike : FuncData)
  F_Shop_strike : Fun K "strike" "Shop.strike" s_Shop_strike a_Shop_strike d_Shop_strike
  b_Shop_strike : Binds K d_Shop_strike P_Shop_strike []
  (a_Shop_add : Addr) (d_Shop_add : FuncData)
  F_Shop_add : Fun K "add" "Shop.add" s_Shop_add a_Shop_add d_Shop_add
  b_Shop_add : Binds K d_Shop_add P_Shop_add []
  (a_Shop_shuts : Addr) (d_Shop_shuts : FuncData)
  F_Shop_shuts : Fun K "shuts" "Shop.shuts" s_Shop_shuts a_Shop_shuts d_Shop_shuts
  b_Shop_shuts : Binds K d_Shop_shuts P_Shop_shuts []
  (a_Shop_shuts_not : Addr) (d_Shop_shuts_not : FuncData)
  F_Shop_shuts_not : Fun K "shuts_not" "Shop.shuts_not" s_Shop_shuts_not a_Shop_shuts_not d_Shop_shuts_not
  b_Shop_shuts_not : Binds K d_Shop_shuts_not P_Shop_shuts_not []
  (a_Shop_office : Addr) (d_Shop_office : FuncData)
  F_Shop_office : Fun K "office" "Shop.office" s_Shop_office a_Shop_office d_Shop_office
  b_Shop_office : Binds K d_Shop_office P_Shop_office []
  (a_Shop_back : Addr) (d_Shop_back : FuncData)
  F_Shop_back : Fun K "back" "Shop.back" s_Shop_back a_Shop_back d_Shop_back
  b_Shop_back : Binds K d_Shop_back P_Shop_back []
  (a_Shop_depth : Addr) (d_Shop_depth : FuncData)
  F_Shop_depth : Fun K "depth" "Shop.depth" s_Shop_depth a_Shop_depth d_Shop_depth
  b_Shop_depth : Binds K d_Shop_depth P_Shop_depth []
  (a_moves_by_slip : Addr) (d_moves_by_slip : FuncData)
  F_moves_by_slip : Fun K "moves_by_slip" "moves_by_slip" s_moves_by_slip a_moves_by_slip d_moves_by_slip
  b_moves_by_slip : Binds K d_moves_by_slip P_moves_by_slip []
  g_moves_by_slip : mg "moves_by_slip" = some (.ref a_moves_by_slip)
  k_moves_by_slip : PySem.W.keepIn K (.ref a_moves_by_slip) = true
  (a_joint_moves : Addr) (d_joint_moves : FuncData)
  F_joint_moves : Fun K "joint_moves" "joint_moves" s_joint_moves a_joint_moves d_joint_moves
  b_joint_moves : Binds K d_joint_moves P_joint_moves []
  g_joint_moves : mg "joint_moves" = some (.ref a_joint_moves)
  k_joint_moves : PySem.W.keepIn K (.ref a_joint_moves) = true
  (a_joint_lasts : Addr) (d_joint_lasts : FuncData)
  F_joint_lasts : Fun K "joint_lasts" "joint_lasts" s_joint_lasts a_joint_lasts d_joint_lasts
  b_joint_lasts : Binds K d_joint_lasts P_joint_lasts []
  g_joint_lasts : mg "joint_lasts" = some (.ref a_joint_lasts)
  k_joint_lasts : PySem.W.keepIn K (.ref a_joint_lasts) = true
  (a_chained : Addr) (d_chained : FuncData)
  F_chained : Fun K "chained" "chained" s_chained a_chained d_chained
  b_chained : Binds K d_chained P_chained []
  g_chained : mg "chained" = some (.ref a_chained)
  k_chained : PySem.W.keepIn K (.ref a_chained) = true
  (a_l_hand : Addr) (d_l_hand : FuncData)
  F_l_hand : Fun K "_law_hand" "_law_hand" s_l_hand a_l_hand d_l_hand
  b_l_hand : Binds K d_l_hand P_l_hand []
  g_l_hand : mg "_law_hand" = some (.ref a_l_hand)
  k_l_hand : PySem.W.keepIn K (.ref a_l_hand) = true
  (a_l_draw : Addr) (d_l_draw : FuncData)
  F_l_draw : Fun K "_law_draw" "_law_draw" s_l_draw a_l_draw d_l_draw
  b_l_draw : Binds K d_l_draw P_l_draw []
  g_l_draw : mg "_law_draw" = some (.ref a_l_draw)
  k_l_draw : PySem.W.keepIn K (.ref a_l_draw) = true
  (a_l_sizes : Addr) (d_l_sizes : FuncData)
  F_l_sizes : Fun K "_law_sizes" "_law_sizes" s_l_sizes a_l_sizes d_l_sizes
  b_l_sizes : Binds K d_l_sizes P_l_sizes []
  g_l_sizes : mg "_law_sizes" = some (.ref a_l_sizes)
  k_l_sizes : PySem.W.keepIn K (.ref a_l_sizes) = true
  (a_l_moves : Addr) (d_l_moves : FuncData)
  F_l_moves : Fun K "_law_moves" "_law_moves" s_l_moves a_l_moves d_l_moves
  b_l_moves : Binds K d_l_moves P_l_moves []
  g_l_moves : mg "_law_moves" = some (.ref a_l_moves)
  k_l_moves : PySem.W.keepIn K (.ref a_l_moves) = true
  (a_l_closings : Addr) (d_l_closings : FuncData)
  F_l_closings : Fun K "_law_closings" "_law_closings" s_l_closings a_l_closings d_l_closings
  b_l_closings : Binds K d_l_closings P_l_closings []
  g_l_closings : mg "_law_closings" = some (.ref a_l_closings)
  k_l_closings : PySem.W.keepIn K (.ref a_l_closings) = true
  (a_l_office : Addr) (d_l_office : FuncData)
  F_l_office : Fun K "_law_office" "_law_office" s_l_office a_l_office d_l_office
  b_l_office : Binds K d_l_office P_l_office []
  g_l_office : mg "_law_office" = some (.ref a_l_office)
  k_l_office : PySem.W.keepIn K (.ref a_l_office) = true
  (a_l_asked : Addr) (d_l_asked : FuncData)
  F_l_asked : Fun K "_law_asked" "_law_asked" s_l_asked a_l_asked d_l_asked
  b_l_asked : Binds K d_l_asked P_l_asked []
  g_l_asked : mg "_law_asked" = some (.ref a_l_asked)
  k_l_asked : PySem.W.keepIn K (.ref a_l_asked) = true
  (a_l_part : Addr) (d_l_part : FuncData)
  F_l_part : Fun K "_law_part" "_law_part" s_l_part a_l_part d_l_part
  b_l_part : Binds K d_l_part P_l_part []
  g_l_part : mg "_law_part" = some (.ref a_l_part)
  k_l_part : PySem.W.keepIn K (.ref a_l_part) = true
  (a_l_run : Addr) (d_l_run : FuncData)
  F_l_run : Fun K "_law_run" "_law_run" s_l_run a_l_run d_l_run
  b_l_run : Binds K d_l_run P_l_run []
  g_l_run : mg "_law_run" = some (.ref a_l_run)
  k_l_run : PySem.W.keepIn K (.ref a_l_run) = true
  (a_l_odd : Addr) (d_l_odd : FuncData)
  F_l_odd : Fun K "_law_odd" "_law_odd" s_l_odd a_l_odd d_l_odd
  b_l_odd : Binds K d_l_odd P_l_odd []
  g_l_odd : mg "_law_odd" = some (.ref a_l_odd)
  k_l_odd : PySem.W.keepIn K (.ref a_l_odd) = true
  (a_l_kept : Addr) (d_l_kept : FuncData)
  F_l_kept : Fun K "_law_kept" "_law_kept" s_l_kept a_l_kept d_l_kept
  b_l_kept : Binds K d_l_kept P_l_kept []
  g_l_kept : mg "_law_kept" = some (.ref a_l_kept)
  k_l_kept : PySem.W.keepIn K (.ref a_l_kept) = true
  (a_l_bad : Addr) (d_l_bad : FuncData)
  F_l_bad : Fun K "_law_bad" "_law_bad" s_l_bad a_l_bad d_l_bad
  b_l_bad : Binds K d_l_bad P_l_bad []
  g_l_bad : mg "_law_bad" = some (.ref a_l_bad)
  k_l_bad : PySem.W.keepIn K (.ref a_l_bad) = true
  (a_l_beyond : Addr) (d_l_beyond : FuncData)
  F_l_beyond : Fun K "_law_beyond" "_law_beyond" s_l_beyond a_l_beyond d_l_beyond
  b_l_beyond : Binds K d_l_beyond P_l_beyond []
  g_l_beyond : mg "_law_beyond" = some (.ref a_l_beyond)
  k_l_beyond : PySem.W.keepIn K (.ref a_l_beyond) = true
  (a_law : Addr) (d_law : FuncData)
  F_law : Fun K "law" "law" s_law a_law d_law
  b_law : Binds K d_law P_law []
  g_law : mg "law" = some (.ref a_law)
  k_law : PySem.W.keepIn K (.ref a_law) = true
  (t_MOST_SIZE : Tok)
  g_MOST_SIZE : mg "MOST_SIZE" = some (.int (4) t_MOST_SIZE)
  (t_MOST_STANDINGS : Tok)
  g_MOST_STANDINGS : mg "MOST_STANDINGS" = some (.int (20) t_MOST_STANDINGS)
  n_abs : mg "abs" = none
  n_all : mg "all" = none
  n_bool : mg "bool" = none
  n_int : mg "int" = none
  n_isinstance : mg "isinstance" = none
  n_len : mg "len" = none
  n_list : mg "list" = none
  n_range : mg "range" = none
  n_repr : mg "repr" = none
  n_sorted : mg "sorted" = none
  n_tuple : mg "tuple" = none
  n_zip : mg "zip" = none
  (a_Office : Addr)
  g_Office : mg "Office" = some (.ref a_Office)
  c_Office : Cls K a_Office
  m_Office : Mk K a_Office a_Office_init
  f_Office_sizes : NoAttr K a_Office "sizes"
  f_Office_moves : NoAttr K a_Office "moves"
  f_Office_closings : NoAttr K a_Office "closings"
  f_Office_kept_goals : NoAttr K a_Office "kept_goals"
  t_Office_keep : Meth K a_Office "keep" a_Office_keep
  t_Office___eq__ : Meth K a_Office "__eq__" a_Office_eq
  (a_RawOffice : Addr)
  g_RawOffice : mg "RawOffice" = some (.ref a_RawOffice)
  c_RawOffice : Cls K a_RawOffice
  m_RawOffice : Mk K a_RawOffice a_RawOffice_init
  f_RawOffice_sizes : NoAttr K a_RawOffice "sizes"
  f_RawOffice_moves : NoAttr K a_RawOffice "moves"
  f_RawOffice_closings : NoAttr K a_RawOffice "closings"
  f_RawOffice_kept_goals : NoAttr K a_RawOffice "kept_goals"
  (a_RawOffice_keep : Addr) (d_RawOffice_keep : FuncData)
  F_RawOffice_keep : Fun K "keep" "Office.keep" s_Office_keep a_RawOffice_keep d_RawOffice_keep
  b_RawOffice_keep : Binds K d_RawOffice_keep P_Office_keep []
  t_RawOffice_keep : Meth K a_RawOffice "keep" a_RawOffice_keep
  (a_RawOffice___eq__ : Addr) (d_RawOffice___eq__ : FuncData)
  F_RawOffice___eq__ : Fun K "__eq__" "Office.__eq__" s_Office_eq a_RawOffice___eq__ d_RawOffice___eq__
  b_RawOffice___eq__ : Binds K d_RawOffice___eq__ P_Office_eq []
  t_RawOffice___eq__ : Meth K a_RawOffice "__eq__" a_RawOffice___eq__
  (a_Shop : Addr)
  g_Shop : mg "Shop" = some (.ref a_Shop)
  c_Shop : Cls K a_Shop
  m_Shop : Mk K a_Shop a_Shop_init
  f_Shop_kept_now : NoAttr K a_Shop "kept_now"
  f_Shop_kept_past : NoAttr K a_Shop "kept_past"
  t_Shop_check_standing : Meth K a_Shop "check_standing" a_Shop_check_standing
  t_Shop_check_mark : Meth K a_Shop "check_mark" a_Shop_check_mark
  t_Shop_change : Meth K a_Shop "change" a_Shop_change
  t_Shop_put : Meth K a_Shop "put" a_Shop_put
  t_Shop_strike : Meth K a_Shop "strike" a_Shop_strike
  t_Shop_add : Meth K a_Shop "add" a_Shop_add
  t_Shop_shuts : Meth K a_Shop "shuts" a_Shop_shuts
  t_Shop_shuts_not : Meth K a_Shop "shuts_not" a_Shop_shuts_not
  t_Shop_office : Meth K a_Shop "office" a_Shop_office
  t_Shop_back : Meth K a_Shop "back" a_Shop_back
  t_Shop_depth : Meth K a_Shop "depth" a_Shop_depth
end Fd
set_option Elab.async false
set_option linter.all false
set_option maxRecDepth 100000
set_option maxHeartbeats 4000000
namespace Fd
open PySem PySem.Spec PySem.Calls PyProof.Rows L2
/-- what the written part says of an own error's __init__ whose first row is super().__init__(text) -/
structure SupI (P : Program) (K : PySem.W.Frag) (C f : Addr) (F : NdefX.NF) (cc : Addr) : Prop where
  fn : ∃ (oc : Value) (od : Option Addr) (osl : Array (Option Value)) (doc pm ctv : Value), K.lookup f = some ⟨oc, od, .func (F.fd doc pm ctv), osl⟩
  cl : F.cl = [(("__class__" : Str), cc)]
  code : PySem.W.codeIn K (.ref F.c) F.qual = true
  file : ∃ (ccl : Value) (cdd : Option Addr) (vs : Array Value) (ccs : Array (Option Value)) (fl : Str) (tf : Tok), K.lookup F.c = some ⟨ccl, cdd, .fields vs, ccs⟩ ∧ vs[2]? = some (.str fl tf) ∧ ((P.main.file : Str) == fl) = true
  cell : ∃ (c1 : Value) (c2 : Option Addr) (c3 : Array (Option Value)), K.lookup cc = some ⟨c1, c2, .cell (some (.ref C)), c3⟩
  mro : PySem.W.mroIn K C (.ref C) = some true
  sup : PySem.W.ks_superIn K C C "__init__" = some (some (.builtin "ValueError.__init__"))
  sub : PySem.W.subIn K (.ref C) (.type "ValueError") = some true
  any : PySem.W.nsIn K cStatics "thirdparty.any" = some none
  oex : OexC K C
/-- the wrapper is called: the error's args are laid anew -/
theorem call_wrapped {X : Cx} {pins : List (Addr × Obj)} {σ : L2.St} {H : Hp} {s : Shared} {a C u : Addr} {us : List Value} {Q : Value → Shared → Prop} {E : Value → Shared → Prop} (T : OexC X.K C) (I : Inv X pins σ H s) (e : H a = some (exo a C none))
    (hu : s.heap.get? u = some (PySem.W.kxs_mw "ValueError.__init__" a)) (hl : us.length ≤ sizeLine) (h : ∀ s', Inv X pins σ H s' → Q .none s') : wpAny (model X.prog X.w) X.A (call (.ref u) us) Q E s := by
  obtain ⟨nm, q, N, bs, bm, sn, sub, ab, col, dd, k0, k1, k2, k3, k5, hC, hbm⟩ := T.cls
  obtain ⟨t1, ho⟩ := exo_at I.hok e
  have hC' := I.kIn _ _ hC
  obtain ⟨hp, g, d, t, os⟩ := s
  refine wpAny_call (codeAny_of_tree ?_)
  show wpAny _ X.A.in1 (callAny (.ref u) ⟨us, []⟩) _ _ _
  unfold callAny
  refine wpAny_bind (wpAny_load hu ?_)
  simp only [PySem.W.kxs_mw]
  refine PySem.W.KFB.if_so (by decide) ?_
  refine wpAny_bind (PySem.ESX.check_bound F.excBase_ValueError hC' ho rfl ?_)
  refine wpAny_bind (wpAny_pure (wpAny_pure ⟨Code.quiet_builtin _ (by decide +kernel), codeAny_builtin F.excBase_ValueError.initEntry ?_⟩))
  rw [Around.under_plainId F.excBase_ValueError.init.plain _]
  refine PySem.W.exc_init_tree (cls := .ref C) (t0 := t1) (dv := none) (c2 := .none) (c3 := .none) (b4 := .bool false) ho hl fun h' keep hx _ => ?_
  have J := I.write (t' := t) (x := a) (e := a) (o := exo a C none) (by rw [e]; exact True.intro) (.inl rfl) keep ⟨_, hx⟩ (exo_ok hx)
  have eu : upd H a (exo a C none) = H := by
    funext b
    by_cases hb : b = a
    · rw [hb, upd_same, e]
    · rw [upd_ne hb]
  rw [eu] at J
  exact h _ J
/-- the row super().__init__(text) -/
theorem sup_row {X : Cx} {pins : List (Addr × Obj)} {σ : L2.St} {H : Hp} {s : Shared} {C f cc a L : Addr} {F : NdefX.NF} {m : Str} {j : Nat} {p0 p1 p2 p3 p4 p5 : Pos} {body : List Stmt} {ar : Arg} {pl : Sem Bool} {Q : Flow → Shared → Prop}
    (S : SupI X.prog X.K C f F cc) (he : X.env = NdefX.envF F f L) (I : Inv X pins σ H s) (hp : (F.params.posonlyargs ++ F.params.args).head? = some ar) (hN : X.N[0]? = some ar.arg) (hσ : σ[0]? = some (some (.ref a))) (hv : F.scope.names.lookup ar.arg = some .local) (ha : H a = some (exo a C none))
    (hm : X.mg "super" = none) (hks : F.scope.names.lookup ("super" : Str) = some .globalImplicit) (hkc : F.scope.names.lookup ("__class__" : Str) = some .free) (htop : (X.prog.main.scope.names.lookup ("super" : Str)).isSome = false)
    (hq : ∀ s', Inv X pins σ H s' → Q .next s')
    (hint : interactive (NdefX.envF F f L) = false) (hsw : swapsWith (.Call (.Attribute (.Call (.Name "super" p0) [] [] p1) "__init__" p2) [.Constant (.str m) j p3] [] p4) none p5.line (NdefX.envF F f L) = pure false)
    (hev : eval (.Call (.Attribute (.Call (.Name "super" p0) [] [] p1) "__init__" p2) [.Constant (.str m) j p3] [] p4) (NdefX.envF F f L) = (do
      let ov ← attributeBase (.Call (.Name "super" p0) [] [] p1) "__init__" (NdefX.envF F f L) (eval (.Call (.Name "super" p0) [] [] p1) (NdefX.envF F f L))
      standAt p2.atName
      let (g, first) ← holding [ov] (getMethod ov "__init__" pl)
      callWith p4 g first (backTo p4 (starEach [.Constant (.str m) j p3] (NdefX.envF F f L))) [])) :
    _root_.PySem.wpAt (model X.prog X.w) X.A (.func body (NdefX.envF F f L)) (exec (.Expr (.Call (.Attribute (.Call (.Name "super" p0) [] [] p1) "__init__" p2) [.Constant (.str m) j p3] [] p4) p5) (NdefX.envF F f L)) Q X.xe s := by
  obtain ⟨oc, od, osl, doc, pm, ctv, lk⟩ := S.fn
  obtain ⟨ccl, cdd, vs, ccs, fl, tf, lc, hvs, hfl⟩ := S.file
  obtain ⟨c1, c2, c3, lcell⟩ := S.cell
  obtain ⟨t1, ho⟩ := exo_at I.hok ha
  have KX := I.kIn
  have kind : F.scope.kind = .function := by have z := I.ok.kind; rw [he] at z; exact z
  obtain ⟨cd, hcd, hcm⟩ : ∃ cd, PySem.W.clsIn X.K C = some cd ∧ PySem.W.alongIn X.K "__init__" ((cd.mro.dropWhile (· != .ref C)).drop 1) = some (some (.builtin "ValueError.__init__")) := by
    have z := S.sup
    unfold PySem.W.ks_superIn at z
    cases e : PySem.W.clsIn X.K C with
    | none => rw [e] at z; cases z
    | some cd => rw [e] at z; exact ⟨cd, rfl, z⟩
  obtain ⟨oD, hD1, hD2⟩ : ∃ oD, s.heap.get? C = some oD ∧ oD.data = .cls cd := by
    unfold PySem.W.clsIn at hcd
    split at hcd
    · rename_i y1 y2 y3 y4 z
      cases hcd
      exact ⟨_, KX _ _ z, rfl⟩
    · cases hcd
  have J : PySem.W.InstAt s.heap a _ C none := ⟨ho, rfl, rfl, trivial⟩
  have aC : a ≠ C := PySem.W.ks_ne KX J hcd
  obtain ⟨mb, hb1, hb2⟩ := I.mod.blt
  obtain ⟨mL, hmL, hloc⟩ := I.loc
  obtain ⟨u0, ru0, lu0⟩ := hloc 0 ar.arg (.ref a) hN hσ (.inl (by rw [he]; exact hv))
  obtain rfl : u0 = Value.ref a := ru0
  have hv' : mL ar.arg = some (.ref a) := by
    rcases lu0 with ⟨_, z⟩ | ⟨z, _⟩
    · exact z
    · rw [he] at z
      have z' : F.scope.names.lookup ar.arg = some .cell ∨ F.scope.names.lookup ar.arg = some .free := z
      rw [hv] at z'
      rcases z' with z | z <;> cases z
  rw [he] at hmL
  have hgl := I.mod.glob.keeps I.bk
  have hbl := hb1.keeps I.bk
  have hboot : mb ("super" : Str) = some (.type "super") := (hb2 ("super" : Str) (by decide)).trans PyProof.Rows.Boot.super
  refine ks_wpAt_Expr_any (ks_wpAt_MethodCall (ks_wpAt_super_base (env := NdefX.envF F f L) hks hkc (by decide) rfl (KX _ _ lk) rfl hp rfl (KX _ _ lc) rfl hvs hfl htop ?_) hev) hint hsw
  refine PySem.W.ks_loadName_global kind hks (Calls.loadGlobal_builtin (env := NdefX.envF F f L) hgl hm hbl hboot ⟨rfl, ?_⟩)
  refine wpAny_loadName_free kind hkc (c := cc) ?hclo ⟨_, KX _ _ lcell, rfl⟩ ?_
  case hclo => (show F.cl.lookup _ = _; rw [S.cl]; rfl)
  refine wpAny_loadName_local kind hv hmL hv' ?_
  obtain ⟨hp0, g, d, t, os⟩ := s
  refine ks_wpAny_isType_cls hD1 hD2 ⟨rfl, ?_⟩
  refine ks_wpAny_call_super hD1 hD2 ho rfl (fun _ z => nomatch z) (PySem.W.looks_mroIn KX S.mro) fun h1 hso k1 => ?_
  have I1 : Inv X pins σ H ⟨h1, g, d, t, os⟩ := I.kept k1
  obtain ⟨t2, ho1⟩ := exo_at I1.hok ha
  have J1 : PySem.W.InstAt h1 a _ C none := ⟨ho1, rfl, rfl, trivial⟩
  refine PySem.W.kxs_getMethod PySem.W.kxs_ValueError hso (PySem.W.looks_opaque I1.kIn S.any) ((PySem.W.looks_clsIn I1.kIn hcd).andThen .now) rfl I1.kIn hcm (J1.type.andThen (PySem.W.looks_subIn I1.kIn S.sub)) aC (by decide) ?_
  have hu : (h1.push (PySem.W.kxs_mw "ValueError.__init__" a)).get? h1.objs.size = some (PySem.W.kxs_mw "ValueError.__init__" a) := Heap.get?_push_at rfl rfl
  have I2 : Inv X pins σ H ⟨h1.push (PySem.W.kxs_mw "ValueError.__init__" a), g, d, t + 1, os⟩ := I1.kept fun b o e => Heap.get?_push_of_some _ e
  have I3 : Inv X ((h1.objs.size, PySem.W.kxs_mw "ValueError.__init__" a) :: pins) σ H ⟨h1.push (PySem.W.kxs_mw "ValueError.__init__" a), g, d, t + 1, os⟩ :=
    ⟨I2.ok, I2.os, I2.bare, I2.base, I2.loc, I2.cell, I2.free, I2.freeC, fun p hp => by
      rcases List.mem_append.mp hp with z | z
      · exact I2.pin p (List.mem_append_left _ z)
      · rcases List.mem_cons.mp z with e | z
        · rw [e]
          exact ⟨hu, I1.hok.fresh (Nat.le_refl _), Nat.ne_of_gt I1.lt, I1.nofs (Nat.le_refl _), fun _ z => nomatch z⟩
        · exact I2.pin p (List.mem_append_right _ z), I2.hok, I2.len⟩
  have R := (pa_cons (X := X) (pe_str (x := m) (j := j) (pos := p3)) pa_nil).run p4 _ _ σ H (fun vs H1 => vs = [V.str m] ∧ H1 = H) I3 ⟨rfl, rfl⟩
  rw [he] at R
  refine PySem.W.kxs_callWith (i := "ValueError.__init__") (x := a) (by rfl) (Calls.evalArgs_plain (thn R fun us s1 ⟨vs, H1, I4, r, ev, eH⟩ => ?_))
  subst ev eH
  have hu4 := (I4.pin (h1.objs.size, PySem.W.kxs_mw "ValueError.__init__" a) (List.mem_append_right _ List.mem_cons_self)).1
  have I5 : Inv X pins σ H1 s1 := ⟨I4.ok, I4.os, I4.bare, I4.base, I4.loc, I4.cell, I4.free, I4.freeC, fun p hp => I4.pin p (by
    rcases List.mem_append.mp hp with z | z
    · exact List.mem_append_left _ z
    · exact List.mem_append_right _ (List.mem_cons_of_mem _ z)), I4.hok, I4.len⟩
  refine ⟨hu4, call_wrapped S.oex I5 ha hu4 ?_ hq⟩
  show us.length ≤ sizeLine
  rw [← r.length]
  show 1 ≤ sizeLine
  decide
theorem lookup_one {x y : Str} {c d : Addr} (h : ([(x, c)] : List (Str × Addr)).lookup y = some d) : y = x ∧ d = c := by
  rw [List.lookup_cons] at h
  cases e : y == x with
  | true =>
    rw [e] at h
    exact ⟨beq_iff_eq.mp e, (Option.some.inj h).symm⟩
  | false =>
    rw [e] at h
    cases h
/-- THE RULE: an own error's __init__ that begins with super().__init__(text), by the rest of its body -/
theorem fn_super {CX : CXT} {P : Program} {w : World} {K : PySem.W.Frag} {mg : Str → Option Value} {base : Heap} {N ps : List Str} {F : NdefX.NF} {C f cc : Addr} {k : Nat} {sp : Sp} {fd : FuncData} {m : Str} {j : Nat} {p0 p1 p2 p3 p4 p5 : Pos} {rest : List Stmt} {ar : Arg} {pl : Addr → Sem Bool}
    (S : SupI P K C f F cc) (hfd : ∃ doc pm ctv, fd = F.fd doc pm ctv ∧ ∃ oc od osl, K.lookup f = some ⟨oc, od, .func fd, osl⟩) (NS : NdefX.NScope N ps [("__class__" : Str)] F.scope)
    (hbody : F.body = .Expr (.Call (.Attribute (.Call (.Name "super" p0) [] [] p1) "__init__" p2) [.Constant (.str m) j p3] [] p4) p5 :: rest) (hp : (F.params.posonlyargs ++ F.params.args).head? = some ar) (hps : ps[0]? = some ar.arg)
    (hm : mg "super" = none) (hks : F.scope.names.lookup ("super" : Str) = some .globalImplicit) (htop : (P.main.scope.names.lookup ("super" : Str)).isSome = false)
    (hint : ∀ L, interactive (NdefX.envF F f L) = false) (hsw : ∀ L, swapsWith (.Call (.Attribute (.Call (.Name "super" p0) [] [] p1) "__init__" p2) [.Constant (.str m) j p3] [] p4) none p5.line (NdefX.envF F f L) = pure false)
    (hev : ∀ L, eval (.Call (.Attribute (.Call (.Name "super" p0) [] [] p1) "__init__" p2) [.Constant (.str m) j p3] [] p4) (NdefX.envF F f L) = (do
      let ov ← attributeBase (.Call (.Name "super" p0) [] [] p1) "__init__" (NdefX.envF F f L) (eval (.Call (.Name "super" p0) [] [] p1) (NdefX.envF F f L))
      standAt p2.atName
      let (g, first) ← holding [ov] (getMethod ov "__init__" (pl L))
      callWith p4 g first (backTo p4 (starEach [.Constant (.str m) j p3] (NdefX.envF F f L))) []))
    (len : ∀ vs H Q E, sp vs H Q E → vs.length = ps.length) (self : ∀ vs H Q E, sp vs H Q E → ∃ a, vs[0]? = some (.ref a) ∧ H a = some (exo a C none))
    (hrest : ∀ (A : Around) (outer : List Env) (s : Shared) (H : Hp) (vs : List V) (Q : VK) (E : XK), Room k (A.deeper (NdefX.envF F f s.heap.objs.size)) → sp vs H Q E →
      ∃ t, PSs (NdefX.ncx CX P w K mg base N F f A outer s H E) rest t ∧ t { nx := fun _ H' => Q .non H', rt := Q } (NdefX.startF N vs [none]) H) : FnOk P w K mg base CX (k + 1) f fd ps sp := by
  obtain ⟨doc, pm, ctv, rfl, oc, od, osl, lk⟩ := hfd
  refine ⟨len, fun A outer s H args us vs Q E hr e0 hb r hsp => ?_⟩
  have hl := len _ _ _ _ hsp
  have KX : K.In s.heap := e0.mod.kin.keeps fun b o e => (e0.bs b o e).1
  have lim : s.heap.NoLimit := e0.mod.nolimit.keeps fun b o e => (e0.bs b o e).1
  obtain ⟨a, ha0, haH⟩ := self _ _ _ _ hsp
  obtain ⟨c1, c2, c3, lcell⟩ := S.cell
  have cat : NdefX.CellsAt F.cl [("__class__" : Str)] [none] s.heap H := by
    rw [S.cl]
    refine ⟨rfl, fun y c e => ?_, fun x y c e1 e2 => ?_, fun i y e => ?_⟩
    · obtain ⟨_, rfl⟩ := lookup_one e
      exact ⟨(e0.bs _ _ (e0.mod.kin _ _ lcell)).2, _, _, KX _ _ lcell, rfl⟩
    · exact (lookup_one e1).1.trans (lookup_one e2).1.symm
    · cases i with
      | zero =>
        cases e
        exact ⟨cc, rfl, fun v z => nomatch z⟩
      | succ i => cases e
  refine codeAny_call_function hr.depth (KX _ _ lk) rfl NS.co NS.gen rfl (PySem.W.codeRec_of KX S.code) (hb _ _ _ _ ?_)
  refine wpAny_newFunctionEnv NS.nocell (fun ⟨n, _⟩ hy => NS.par n (List.of_mem_zip hy).1) (fun h1 hns hsb => ⟨lim.fresh _ hsb, ?_⟩) NS.kind
  have kp : ∀ b o, s.heap.get? b = some o → h1.get? b = some o := fun b o e => hsb.extBut b o (Nat.ne_of_lt (Heap.lt_size e)) (Heap.get?_push_of_some _ e)
  obtain ⟨t, ht, hq⟩ := hrest A outer s H vs Q E (hr.deeper _) hsp
  have I := NdefX.inv_startN (CX := CX) (E := E) (f := f) (tk := s.toks + (ps.zip us).length) NS hr.hd e0 hl r cat hns kp
  show codeAny _ _ (.func F.body (NdefX.envF F f s.heap.objs.size)) _ _
  refine ks_codeAny_funcAt ?_
  rw [hbody]
  have hl0 : 0 < ps.length := (List.getElem?_eq_some_iff.mp hps).1
  have par : ar.arg ∈ ps := List.mem_of_getElem? hps
  have hN0 : N[0]? = some ar.arg := by
    have q := congrArg (fun l : List Str => l[0]?) NS.pre
    have q2 : (N.take (ps.length + [("__class__" : Str)].length))[0]? = (ps ++ [("__class__" : Str)])[0]? := q
    rw [List.getElem?_take_of_lt (by omega), List.getElem?_append_left hl0, hps] at q2
    exact q2
  have hσ0 : (NdefX.startF N vs [none])[0]? = some (some (.ref a)) := by
    unfold NdefX.startF
    rw [List.getElem?_append_left (by rw [List.length_map]; omega), List.getElem?_map, ha0]; rfl
  refine ks_wpAt_execs_cons (sup_row (X := NdefX.ncx CX P w K mg base N F f A outer s H E) S rfl I hp hN0 hσ0 (NS.par _ par) haH hm hks (NS.frk _ (by simp)) htop (fun s' J => ?_) (hint _) (hsw _) (hev _))
  refine wpAt_of_wpAny (wpAny_mono (ht.run [] s' _ H _ J hq) (fun fl s' hs => ?_) fun e s' hs => hs)
  have fin : ∀ {σ' : L2.St} {H' : Hp} {v : V} {u : Value}, Inv (NdefX.ncx CX P w K mg base N F f A outer s H E) [] σ' H' s' → L2.RelV v u → Q v H' → CE outer P w H s Q u s' :=
    fun {σ' H' v u} J rv q => ⟨v, H', J.os, J.bare, J.base, J.hok, rv, q⟩
  cases fl with
  | ret u =>
    obtain ⟨v, σ', H', J, rv, q⟩ := hs
    exact fin J rv q
  | next =>
    obtain ⟨σ', H', J, q⟩ := hs
    exact fin (v := V.non) (u := Value.none) J rfl q
  | brk =>
    obtain ⟨_, _, _, q⟩ := hs
    exact False.elim q
  | cont =>
    obtain ⟨_, _, _, q⟩ := hs
    exact False.elim q
end Fd
set_option Elab.async false
set_option linter.all false
set_option maxRecDepth 100000
set_option maxHeartbeats 4000000
namespace Fd
open PySem PySem.Spec PyProof.Rows L2 PySem.W
section
variable {X : Cx}
theorem reads_all {β : Type} {R : V → β → Prop} {enc : β → PyData} {pins : List (Addr × Obj)} {σ : L2.St} {H : Hp} {s : Shared} (I : Inv X pins σ H s) (hd : ∀ v b, R v b → Dp X.K H v (enc b)) : ∀ {vs : List V} {us : List Value} {bs : List β}, Vals vs us → Paired R vs bs → ∃ as, ReadsAll s.heap us (bs.map enc) as
  | _, _, _, .nil, .nil => ⟨_, .nil⟩
  | _, _, _, .cons r t, .cons h q => by
    obtain ⟨a1, r1⟩ := Dp.reads I _ _ _ (hd _ _ h) r
    obtain ⟨a2, r2⟩ := reads_all I hd t q
    exact ⟨_, .cons r1 r2⟩
theorem vals_at : ∀ {vs : List V} {us : List Value} {i : Nat} {u : Value}, Vals vs us → us[i]? = some u → ∃ v, vs[i]? = some v ∧ RelV v u
  | _, _, _, _, .nil, e => by simp at e
  | _, _, 0, _, .cons r _, e => by
    have e' := Option.some.inj (by simpa using e)
    subst e'
    exact ⟨_, rfl, r⟩
  | _, _, i + 1, _, .cons _ t, e => by
    obtain ⟨v, h1, h2⟩ := vals_at (i := i) t (by simpa using e)
    exact ⟨v, by simpa using h1, h2⟩
/-- min of a list of data, the first of the least -/
def rMinD (K : Frag) : List V → Hp → VK → Prop := fun xs H Q => ∃ (a : Addr) (vs : List V) (β : Type) (R : V → β → Prop) (enc : β → PyData) (b0 : β) (bs : List β), xs = [.ref a] ∧ (SqL K H a vs ∧ Paired R vs (b0 :: bs)) ∧ (∀ v b, R v b → Dp K H v (enc b)) ∧
  (AlikeAll ((b0 :: bs).map enc) ∧ PyData.depthAll ((b0 :: bs).map enc) ≤ 60) ∧ ∀ v b, b ∈ b0 :: bs → R v b → enc b = minD (enc b0) (bs.map enc) → Q v H
theorem cr_minD {k : Nat} (hr : Room k X.A) (hh : X.calm = true) : CallR X (.builtin "min") (rMinD X.K) := by
  intro pins s σ H xs us Q I r h
  obtain ⟨a, vs, β, R, enc, b0, bs, rfl, ⟨hs, pr⟩, hd, ⟨al, dp⟩, q⟩ := h
  obtain ⟨its, rv, hl, hz⟩ := I.list hs
  obtain ⟨u, rfl, ru⟩ := vals1 r
  obtain rfl : u = Value.ref a := ru
  obtain ⟨as, ra⟩ := reads_all I hd rv pr
  have hu := hr.un
  refine min_list_data (I.ok.hd hh) hl.isList (x := enc b0) (xs := bs.map enc) (as := as) (by simpa using ra) al (by show X.A.units + 1 + PyData.depthAll ((b0 :: bs).map enc) < cLine; omega) fun i v h' tk bs' hv hr' hk => ?_
  have hv' : its[i]? = some v := by simpa using hv
  obtain ⟨w, hw, rw'⟩ := vals_at rv hv'
  obtain ⟨b, hb, rb⟩ := pgetL pr hw
  have J : Inv X pins σ H { s with heap := h', toks := tk } := I.kept hk
  obtain ⟨a2, r2⟩ := Dp.reads J _ _ _ (hd _ _ rb) rw'
  exact ⟨w, H, J, rw', q w b (List.mem_of_getElem? hb) rb (r2.unique _ _ hr').1⟩
/-- isinstance(e, c), e the error that the suite holds, of the class at D, its dict at d -/
def rIsX (K : Frag) (D a : Addr) (d : Option Addr) : List V → Hp → VK → Prop := fun xs H Q => ∃ (c : V) (cv : Value) (b : Bool), xs = [.ref a, c] ∧ (∀ u, RelV c u → u = cv) ∧ kitOne K (.ref D) cv = some b ∧ (∀ dd, d = some dd → ∃ fs, H dd = some (.xd fs)) ∧ Q (.bl b) H
theorem call_isX {a D : Addr} {d : Option Addr} {oe : Obj} {pn : List (Addr × Obj)} (C : ExcC X.K D) (hz : Zc (.ref D) d oe) (hf : ∃ vs, oe.data = .fields vs) : CallR (X.suite a ((a, oe) :: pn)) (.builtin "isinstance") (rIsX X.K D a d) := by
  intro pins s σ H xs us Q I r h
  obtain ⟨c, cv, b, rfl, hcv, e, hdd, q⟩ := h
  obtain ⟨vs, hv⟩ := hf
  obtain ⟨hz1, hz2⟩ := hz
  cases r with
  | cons rx rr =>
    cases rr with
    | cons rt rr =>
      cases rr
      cases rx
      have ecv := hcv _ rt
      subst ecv
      have hget := (I.pin (a, oe) (List.mem_append_left _ List.mem_cons_self)).1
      have nc : notCls oe = true := by unfold notCls; rw [hv]
      have hcl : (clsIn X.K D).isSome = true := by
        obtain ⟨cd, e1, _⟩ := any_some C.hd
        rw [e1]
        rfl
      have fin : ∀ od, InstAt s.heap a oe D od → wpAny (model X.prog X.w) (X.suite a ((a, oe) :: pn)).A (call (.builtin "isinstance") [.ref a, _]) (EP (X.suite a ((a, oe) :: pn)) pins σ Q) (X.suite a ((a, oe) :: pn)).xe s := fun od J =>
        kia_one (kitx_exc (od := od) hcl C.hg C.hk C.hs C.ha C.hn C.ht C.hm) I.kIn J e (fun z => nomatch z) fun tk => ⟨.bl b, H, I.kept (t' := tk) fun _ _ z => z, rfl, q⟩
      cases d with
      | none => exact fin none ⟨hget, hz1, nc, by rw [hz2]; trivial⟩
      | some dd =>
        obtain ⟨fs, hx⟩ := hdd dd rfl
        obtain ⟨mA, ⟨o, es, ep, ho, _⟩, _⟩ : ObjOk X.prog X.w H s.heap dd (.xd fs) := I.hok dd _ hx
        exact fin (some o) ⟨hget, hz1, nc, by rw [hz2]; exact ho⟩
/-- the same, whatever class the error has -/
def rIsY (K : Frag) (cls : Value) (a : Addr) (d : Option Addr) : List V → Hp → VK → Prop := fun xs H Q => ∃ D, cls = .ref D ∧ ExcC K D ∧ rIsX K D a d xs H Q
theorem call_isY {a : Addr} {cls : Value} {d : Option Addr} {oe : Obj} {pn : List (Addr × Obj)} (hz : Zc cls d oe) (hf : ∃ vs, oe.data = .fields vs) : CallR (X.suite a ((a, oe) :: pn)) (.builtin "isinstance") (rIsY X.K cls a d) := by
  intro pins s σ H xs us Q I r h
  obtain ⟨D, rfl, C, h⟩ := h
  exact call_isX C hz hf pins s σ H xs us Q I r h
/-- C(), C an own error without an __init__ of its own -/
theorem pmk_own0 {C : Addr} {bmB : List Value} {B newId initId : String} {x : Str} {p pos : Pos} (F : ExcBaseFacts B newId initId bmB) (q : excIn X.K C bmB newId = true) (gC : X.mg x = some (.ref C)) (kC : keepIn X.K (.ref C) = true) (r : Raises X (.ref C)) (hg : Gl X x)
    (hdb : (x == ("__debug__" : Str)) = false := by decide) : PMk X (.Call (.Name x p) [] [] pos) (fun _ H Q => Q (.ref C) none H) := by
  intro pins s σ H Q I h
  refine wpAny_Call_Name_kw (ld_glob I hg gC ?_ hdb)
  refine callWith_K0 I.kIn kC ?_
  obtain ⟨bm, N, nm, qn, bs, hdct, sn, sub, ab, col, dd, k0, k1, k2, k3, k5, mN, hC, hN, hni, T⟩ := exc_obj I.kIn q
  show wpAny _ _ (call (.ref C) []) _ _ _
  refine wpAny_call_exc_subT F T hC hN hni (fun h' e hm => ?_) (Nat.zero_le _)
  exact mk_of I hm r h (I.hok.gone hm.new)
end
end Fd
set_option Elab.async false
set_option linter.all false
set_option maxRecDepth 100000
set_option maxHeartbeats 4000000
/-! A head's hook with further facts: errors of one's own whose __init__ says super().__init__. -/
namespace Fd
open PySem PySem.Spec PyProof.Rows L2 PySem.W
/-- such an error: its class's name, its __init__ as the text has it, the text's file -/
structure SupD where
  cls : Str
  qual : Str
  params : Arguments
  body : List Stmt
  scope : Scope
  file : Str
abbrev SupV : Type := Option (Str × Str × Arguments × FuncBody × Scope × Addr × List Str × Addr)
def iAd (K : Frag) (c : Str) : Addr := He.ma K (He.ga K c) "__init__"
def supV (K : Frag) (c : Str) : SupV := match K.lookup (iAd K c) with
  | some ⟨_, _, .func fd, _⟩ => some (fd.name, fd.qualname, fd.params, fd.body, fd.scope, fd.globals, fd.closure.map (·.1), fd.builtins)
  | _ => none
def SupD.val (d : SupD) : SupV := some ("__init__", d.qual, d.params, .stmts d.body, d.scope, mainGlobals, ["__class__"], builtinsNs)
def fileB (K : Frag) (c : Addr) (file : Str) : Bool := match K.lookup c with
  | some ⟨_, _, .fields vs, _⟩ => (match (vs[2]? : Option Value) with
    | some (.str fl _) => file == fl
    | _ => false)
  | _ => false
def cellB (K : Frag) (cc C : Addr) : Bool := match K.lookup cc with
  | some ⟨_, _, .cell (some (.ref D)), _⟩ => decide (D = C)
  | _ => false
def initB (K : Frag) (d : SupD) : Bool := match K.lookup (iAd K d.cls) with
  | some ⟨_, _, .func fd, _⟩ => (match fd.closure, fd.code, fd.defaults, fd.kwdefaults, fd.annotations with
    | [(_, cc)], .ref c, .none, .none, none => codeIn K (.ref c) d.qual && (fileB K c d.file && cellB K cc (He.ga K d.cls))
    | _, _, _, _, _ => false)
  | _ => false
/-- an own error's class -/
def oexB (K : Frag) (C : Addr) : Bool := (match K.lookup C with
  | some ⟨.type "type", _, .cls cd, sl⟩ => (match cd.mro, sl.toList with
    | .ref C' :: bm, [_, _, _, _, some (.builtin n), _] => decide (C' = C) && (decide (n = "ValueError.__new__") && (!cd.hasDel && (cd.hasDict && PySem.HandSPX.refsVE bm)))
    | _, _ => false)
  | _ => false) && (decide (findIn K (.ref C) "__setattr__" = some (some (.builtin "object.__setattr__"))) && (decide (subIn K (.ref C) (.type "BaseException") = some true) && (decide (typeIn K (.ref C) = some (.type "type")) && keepIn K (.ref C))))
theorem oexB_ok {K : Frag} {C : Addr} (h : oexB K C = true) : OexC K C := by
  unfold oexB at h
  obtain ⟨h1, h⟩ := He.ba h
  obtain ⟨h2, h⟩ := He.ba h
  obtain ⟨h3, h⟩ := He.ba h
  obtain ⟨h4, h5⟩ := He.ba h
  refine ⟨?_, of_decide_eq_true h2, of_decide_eq_true h3, of_decide_eq_true h4, h5⟩
  split at h1
  · rename_i dd cd sl ho
    split at h1
    · rename_i C' bm k0 k1 k2 k3 n k5 hm hs
      obtain ⟨e1, h1⟩ := He.ba h1
      obtain ⟨e2, h1⟩ := He.ba h1
      obtain ⟨e3, h1⟩ := He.ba h1
      obtain ⟨e4, e5⟩ := He.ba h1
      obtain rfl := of_decide_eq_true e1
      obtain rfl := of_decide_eq_true e2
      obtain ⟨nm, bs, mro, ns, qn, hd, sn, sub, ab, col, del⟩ := cd
      dsimp only at hm e3 e4
      subst hm e4
      obtain rfl : del = false := by simpa using e3
      obtain ⟨l⟩ := sl
      have hs' : l = [k0, k1, k2, k3, some (.builtin "ValueError.__new__"), k5] := hs
      subst hs'
      exact ⟨nm, qn, ns, bs, bm, sn, sub, ab, col, dd, k0, k1, k2, k3, k5, ho, e5⟩
    · cases h1
  · cases h1
def supB (K : Frag) (d : SupD) : Bool := initB K d && (oexB K (He.ga K d.cls) && (decide (mroIn K (He.ga K d.cls) (.ref (He.ga K d.cls)) = some true) && (decide (ks_superIn K (He.ga K d.cls) (He.ga K d.cls) "__init__" = some (some (.builtin "ValueError.__init__"))) &&
  (decide (subIn K (.ref (He.ga K d.cls)) (.type "ValueError") = some true) && decide (nsIn K cStatics "thirdparty.any" = some none)))))
abbrev SupD.nf (d : SupD) (cc c : Addr) : NdefX.NF := ⟨"__init__", d.qual, d.params, d.body, d.scope, [(("__class__" : Str), cc)], c⟩
theorem supI_of {P : Program} {K : Frag} {d : SupD} (hP : ((P.main.file : Str) == d.file) = true) (e : supV K d.cls = d.val) (c : supB K d = true) :
    ∃ cc ca, SupI P K (He.ga K d.cls) (iAd K d.cls) (d.nf cc ca) cc ∧ ∃ fd, (∃ doc pm ctv, fd = (d.nf cc ca).fd doc pm ctv ∧ ∃ oc od osl, K.lookup (iAd K d.cls) = some ⟨oc, od, .func fd, osl⟩) := by
  unfold supB at c
  obtain ⟨c1, c⟩ := He.ba c
  obtain ⟨c2, c⟩ := He.ba c
  obtain ⟨c3, c⟩ := He.ba c
  obtain ⟨c4, c⟩ := He.ba c
  obtain ⟨c5, c6⟩ := He.ba c
  unfold supV at e
  unfold initB at c1
  cases q : K.lookup (iAd K d.cls) with
  | none =>
    rw [q] at c1
    cases c1
  | some o =>
    obtain ⟨oc, od, dt, osl⟩ := o
    rw [q] at c1 e
    cases dt with
    | func fd =>
      obtain ⟨n1, n2, n3, n4, n5, n6, n7, n8, n9, n10, n11, n12, n13, n14, n15⟩ := fd
      have e2 : (some (n1, n2, n3, n4, n5, n6, n7.map (·.1), n15) : SupV) = some (("__init__" : Str), d.qual, d.params, FuncBody.stmts d.body, d.scope, mainGlobals, [("__class__" : Str)], builtinsNs) := e
      simp only [Option.some.injEq, Prod.mk.injEq] at e2
      obtain ⟨h1, h2, h3, h4, h5, h6, h7, h8⟩ := e2
      subst h1 h2 h3 h4 h5 h6 h8
      dsimp only at c1
      split at c1
      · rename_i x cc ca
        obtain ⟨z1, z2⟩ := He.ba c1
        obtain ⟨z2, z3⟩ := He.ba z2
        have ex : x = ("__class__" : Str) := by
          have := h7
          simpa using this
        subst ex
        refine ⟨cc, ca, ⟨⟨oc, od, osl, n10, n11, n14, q⟩, rfl, z1, ?_, ?_, of_decide_eq_true c3, of_decide_eq_true c4, of_decide_eq_true c5, of_decide_eq_true c6, oexB_ok c2⟩, _, n10, n11, n14, rfl, oc, od, osl, rfl⟩
        · unfold fileB at z2
          split at z2
          · rename_i ccl cdd vs ccs hl
            split at z2
            · rename_i fl tf hv
              refine ⟨ccl, cdd, vs, ccs, fl, tf, hl, hv, ?_⟩
              rw [← eq_of_beq z2]
              exact hP
            · cases z2
          · cases z2
        · unfold cellB at z3
          split at z3
          · rename_i w1 w2 w3 w4 hl
            obtain rfl := of_decide_eq_true z3
            exact ⟨_, _, _, hl⟩
          · cases z3
      · cases c1
    | _ => cases c1
/-! ### the hook -/
def asX (g : Addr → Option Obj) (n : Nat) : List Addr := cStatics :: He.asD g n
abbrev AlX : Type := Bool × List SupV × He.AlD
def obsX (fa : List He.Fa) (fn : List He.DefD) (sd : List SupD) (xs : List (Frag → Bool)) (K : Frag) : AlX := ((xs.all fun f => f K) && sd.all fun d => supB K d, sd.map fun d => supV K d.cls, He.obsD fa fn K)
def valX (fn : List He.DefD) (sd : List SupD) : AlX := (true, sd.map SupD.val, He.valD fn)
def SaysX (fa : List He.Fa) (fn : List He.DefD) (sd : List SupD) (xs : List (Frag → Bool)) (K : Frag) : Prop := obsX fa fn sd xs K = valX fn sd
def obsXG (n : Nat) (fa : List He.Fa) (fn : List He.DefD) (sd : List SupD) (xs : List (Frag → Bool)) (g : Addr → Option Obj) : AlX := obsX fa fn sd xs (He.frG g (asX g n))
def hookX (n : Nat) (fa : List He.Fa) (fn : List He.DefD) (sd : List SupD) (xs : List (Frag → Bool)) : Hook where
  α := AlX
  obs := fun s => obsXG n fa fn sd xs s.heap.get?
  val := fun _ => valX fn sd
  says := fun _ h => ∃ K : Frag, K.In h ∧ SaysX fa fn sd xs K
  of := fun _ _ e => ⟨_, He.frG_in, e⟩
  keeps := fun _ _ _ ⟨K, hK, c⟩ k => ⟨K, Frag.In.keeps hK k, c⟩
theorem obsXG_eq {n : Nat} {fa : List He.Fa} {fn : List He.DefD} {sd : List SupD} {xs : List (Frag → Bool)} {g : Addr → Option Obj} {s : Shared} (h : ∀ a, g a = s.heap.get? a) : obsXG n fa fn sd xs g = (hookX n fa fn sd xs).obs s := by
  have e : g = s.heap.get? := funext h
  rw [e] <;> rfl
section
variable {fa : List He.Fa} {fn : List He.DefD} {sd : List SupD} {xs : List (Frag → Bool)} {K : Frag}
theorem SaysX.d (c : SaysX fa fn sd xs K) : He.SaysD fa fn K := congrArg (fun z : AlX => z.2.2) c
theorem SaysX.fact (c : SaysX fa fn sd xs K) (i : Nat) {f : Frag → Bool} (h : xs[i]? = some f := by rfl) : f K = true := by
  have c1 := (He.ba (show ((xs.all fun f => f K) && sd.all fun d => supB K d) = true from congrArg (fun z : AlX => z.1) c)).1
  exact List.all_eq_true.mp c1 f (List.mem_of_getElem? h)
theorem SaysX.sup (c : SaysX fa fn sd xs K) (i : Nat) {d : SupD} (h : sd[i]? = some d := by rfl) : supB K d = true ∧ supV K d.cls = d.val := by
  have c1 := (He.ba (show ((xs.all fun f => f K) && sd.all fun d => supB K d) = true from congrArg (fun z : AlX => z.1) c)).2
  have e : (sd.map fun d => supV K d.cls) = sd.map SupD.val := congrArg (fun z : AlX => z.2.1) c
  have e2 : (sd.map fun d => supV K d.cls)[i]? = (sd.map SupD.val)[i]? := by rw [e]
  rw [List.getElem?_map, List.getElem?_map, h] at e2
  exact ⟨List.all_eq_true.mp c1 d (List.mem_of_getElem? h), Option.some.inj e2⟩
end
end Fd
set_option Elab.async false
set_option linter.all false
set_option maxRecDepth 100000
set_option maxHeartbeats 4000000
/-! Plain lists: sorted without doubles; rows by number. -/
namespace Fd
def uins (x : Int) : List Int → List Int
  | [] => [x]
  | y :: r => if x < y then x :: y :: r else if x = y then y :: r else y :: uins x r
def usort (xs : List Int) : List Int := xs.foldr uins []
theorem mem_uins {x z : Int} : ∀ {l : List Int}, z ∈ uins x l ↔ z = x ∨ z ∈ l
  | [] => by simp [uins]
  | y :: r => by
    unfold uins
    by_cases h1 : x < y
    · rw [if_pos h1]; simp
    · rw [if_neg h1]
      by_cases h2 : x = y
      · rw [if_pos h2, h2]; simp
      · rw [if_neg h2, List.mem_cons, mem_uins (l := r), List.mem_cons]
        constructor
        · rintro (h | h | h)
          · exact .inr (.inl h)
          · exact .inl h
          · exact .inr (.inr h)
        · rintro (h | h | h)
          · exact .inr (.inl h)
          · exact .inl h
          · exact .inr (.inr h)
theorem sorted_uins {x : Int} : ∀ {l : List Int}, l.Pairwise (· < ·) → (uins x l).Pairwise (· < ·)
  | [], _ => by simp [uins]
  | y :: r, h => by
    obtain ⟨h0, hr⟩ := List.pairwise_cons.mp h
    unfold uins
    by_cases h1 : x < y
    · rw [if_pos h1]
      refine List.pairwise_cons.mpr ⟨fun z hz => ?_, h⟩
      rcases List.mem_cons.mp hz with q | q
      · rw [q]; exact h1
      · exact Int.lt_trans h1 (h0 z q)
    · rw [if_neg h1]
      by_cases h2 : x = y
      · rw [if_pos h2]; exact h
      · rw [if_neg h2]
        refine List.pairwise_cons.mpr ⟨fun z hz => ?_, sorted_uins hr⟩
        rcases mem_uins.mp hz with q | q
        · rw [q]; omega
        · exact h0 z q
theorem mem_usort {z : Int} : ∀ {l : List Int}, z ∈ usort l ↔ z ∈ l
  | [] => by simp [usort]
  | x :: r => by
    show z ∈ uins x (usort r) ↔ _
    rw [mem_uins, mem_usort (l := r), List.mem_cons]
theorem sorted_usort : ∀ l : List Int, (usort l).Pairwise (· < ·)
  | [] => .nil
  | x :: r => sorted_uins (sorted_usort r)
theorem sorted_uniq : ∀ {a b : List Int}, a.Pairwise (· < ·) → b.Pairwise (· < ·) → (∀ x, x ∈ a ↔ x ∈ b) → a = b
  | [], [], _, _, _ => rfl
  | [], y :: r, _, _, h => by have := (h y).mpr (by simp); cases this
  | x :: r, [], _, _, h => by have := (h x).mp (by simp); cases this
  | x :: r, y :: s, h1, h2, h => by
    obtain ⟨p1, q1⟩ := List.pairwise_cons.mp h1
    obtain ⟨p2, q2⟩ := List.pairwise_cons.mp h2
    have e : x = y := by
      rcases List.mem_cons.mp ((h x).mp (by simp)) with z | z
      · exact z
      · rcases List.mem_cons.mp ((h y).mpr (by simp)) with z' | z'
        · exact z'.symm
        · have := p2 x z; have := p1 y z'; omega
    subst e
    rw [sorted_uniq q1 q2 fun z => ?_]
    constructor
    · intro hz
      rcases List.mem_cons.mp ((h z).mp (by simp [hz])) with q | q
      · have := p1 z hz; omega
      · exact q
    · intro hz
      rcases List.mem_cons.mp ((h z).mpr (by simp [hz])) with q | q
      · have := p2 z hz; omega
      · exact q
theorem sorted_lt {ys : List Int} (h : ys.Pairwise (· ≤ ·)) (n : ys.Nodup) : ys.Pairwise (· < ·) := by
  refine (h.and n).imp fun {a b} q => ?_
  have := q.1; have := q.2; omega
/-- sorted of the keys that were met -/
theorem usort_of {ys ks xs : List Int} (hp : ys.Perm ks) (hs : ys.Pairwise (· ≤ ·)) (hn : ks.Nodup) (hm : ∀ x, x ∈ ks ↔ x ∈ xs) : ys = usort xs :=
  sorted_uniq (sorted_lt hs (hp.nodup_iff.mpr hn)) (sorted_usort _) fun x => by rw [mem_usort, ← hm, hp.mem_iff]
theorem len_sub {α : Type} [DecidableEq α] : ∀ {a b : List α}, a.Nodup → (∀ x ∈ a, x ∈ b) → a.length ≤ b.length
  | [], _, _, _ => Nat.zero_le _
  | x :: r, b, h, s => by
    obtain ⟨h1, h2⟩ := List.nodup_cons.mp h
    have hx : x ∈ b := s x (by simp)
    have := len_sub (b := b.erase x) h2 fun y hy => (List.mem_erase_of_ne (fun e => h1 (by rw [← e]; exact hy))).mpr (s y (by simp [hy]))
    have e := List.length_erase_of_mem hx
    have := List.length_pos_of_mem hx
    simp only [List.length_cons]; omega
/-- a strictly ascending list of small numbers is short -/
theorem short_of {ks : List Int} {n : Nat} (hn : ks.Nodup) (h : ∀ k ∈ ks, 0 ≤ k ∧ k < n) : ks.length ≤ n := by
  have h1 : (ks.map Int.toNat).Nodup := by
    rw [List.nodup_iff_pairwise_ne, List.pairwise_map]
    refine (List.Pairwise.and_mem.mp (List.nodup_iff_pairwise_ne.mp hn)).imp fun {a b} q => ?_
    have := h a q.1; have := h b q.2.1; have := q.2.2; omega
  have h2 : (ks.map Int.toNat) ⊆ List.range n := fun x hx => by
    obtain ⟨k, hk, rfl⟩ := List.mem_map.mp hx
    have := h k hk
    exact List.mem_range.mpr (by omega)
  have := len_sub h1 fun x hx => h2 hx
  simpa using this
def addk {α : Type} [DecidableEq α] (ks : List α) (g : α) : List α := if g ∈ ks then ks else ks ++ [g]
section
variable {α : Type} [DecidableEq α] {ks : List α} {g : α}
theorem addk_nodup (h : ks.Nodup) : (addk ks g).Nodup := by
  unfold addk
  by_cases c : g ∈ ks
  · rw [if_pos c]; exact h
  · rw [if_neg c]; exact L2.nd_snoc h c
theorem mem_addk {x : α} : x ∈ addk ks g ↔ x ∈ ks ∨ x = g := by
  unfold addk
  by_cases c : g ∈ ks
  · rw [if_pos c]
    exact ⟨.inl, fun h => h.elim id fun e => by rw [e]; exact c⟩
  · rw [if_neg c]; simp
theorem keys_put {κ : Type} [DecidableEq κ] (f : α → κ) (hf : ∀ a b, f a = f b → a = b) {kvs : List (κ × L2.V)} {v : L2.V} (h : kvs.map (·.1) = ks.map f) : (L2.putK kvs (f g) v).map (·.1) = (addk ks g).map f := by
  unfold L2.putK addk
  by_cases c : g ∈ ks
  · have q : (kvs.any fun kv => decide (kv.1 = f g)) = true := by
      have : f g ∈ kvs.map (·.1) := by rw [h]; exact List.mem_map_of_mem c
      obtain ⟨p, hp, e⟩ := List.mem_map.mp this
      exact List.any_eq_true.mpr ⟨p, hp, decide_eq_true e⟩
    rw [if_pos q, if_pos c, ← h, List.map_map]
    apply List.map_congr_left
    intro p hp
    show (if p.1 = f g then (p.1, v) else p).1 = p.1
    split <;> rfl
  · have q : ¬ (kvs.any fun kv => decide (kv.1 = f g)) = true := fun q => by
      obtain ⟨p, hp, e⟩ := List.any_eq_true.mp q
      have : f g ∈ kvs.map (·.1) := by rw [← of_decide_eq_true e]; exact List.mem_map_of_mem hp
      rw [h] at this
      obtain ⟨x, hx, e⟩ := List.mem_map.mp this
      rw [hf _ _ e] at hx
      exact c hx
    rw [if_neg q, if_neg c, List.map_append, List.map_append, h]
    rfl
end
def at0 {α : Type} (xs : List (List α)) (i : Int) : List α := (xs[i.toNat]?).getD []
theorem at0_of {α : Type} {xs : List (List α)} {i : Int} {r : List α} (h : xs[i.toNat]? = some r) : at0 xs i = r := by unfold at0; rw [h]; rfl
def ran (n : Int) : List Int := (List.range n.toNat).map Int.ofNat
theorem mem_ran {n x : Int} : x ∈ ran n ↔ 0 ≤ x ∧ x < n := by
  unfold ran
  rw [List.mem_map]
  constructor
  · rintro ⟨a, h, rfl⟩
    have := List.mem_range.mp h
    simp only [Int.ofNat_eq_natCast]; omega
  · intro h
    exact ⟨x.toNat, List.mem_range.mpr (by omega), by simp only [Int.ofNat_eq_natCast]; omega⟩
/-- an office's data: sizes, moves, closings -/
structure Ofc where
  sz : List Int
  mv : List (List (List Int))
  cl : List (List Int)
/-- the goals of standings by a step -/
def goalsM (o : Ofc) (ss st : List Int) : List Int := usort (ss.flatMap fun s => (at0 o.mv s).filterMap fun m => if m.take 3 = st then m[3]? else none)
def lastsM (o : Ofc) (ss : List Int) : List Int := usort (ss.flatMap fun s => at0 o.cl s)
def stepsM (a b c : Int) : List (List Int) := ((ran a).flatMap fun s => (ran b).map fun n => [s, n]).flatMap fun x => (ran c).map fun k => x ++ [k]
end Fd
set_option Elab.async false
set_option linter.all false
set_option maxRecDepth 100000
set_option maxHeartbeats 4000000
namespace Fd
open PySem PySem.Spec PyProof.Rows L2
abbrev s_BadOffice_init : Stmt := inClass (top 3) 0
abbrev P_BadOffice_init : List Str := ["self", "part"]
abbrev N_BadOffice_init : List Str := ["self", "part", "__class__"]
def D_BadOffice : SupD := ⟨"BadOffice", "BadOffice.__init__", defArgs s_BadOffice_init, defBody s_BadOffice_init, defScope s_BadOffice_init, "/claim/cut.py"⟩
theorem sc_BadOffice_init : NdefX.NScope N_BadOffice_init P_BadOffice_init ["__class__"] (defScope s_BadOffice_init) := NdefX.nscope_by (by decide +kernel)
/-- what the top has written of the errors -/
structure Err (P : Program) (K : PySem.W.Frag) (mg : Str → Option Value) where
  (a_FalseError a_NoStep a_NoMark a_NothingDone a_NoStanding a_NoMove a_BadOffice f_BadOffice cc_BadOffice ca_BadOffice : Addr)
  (d_BadOffice_init : FuncData)
  g_FalseError : mg "FalseError" = some (.ref a_FalseError)
  g_NoStep : mg "NoStep" = some (.ref a_NoStep)
  g_NoMark : mg "NoMark" = some (.ref a_NoMark)
  g_NothingDone : mg "NothingDone" = some (.ref a_NothingDone)
  g_NoStanding : mg "NoStanding" = some (.ref a_NoStanding)
  g_NoMove : mg "NoMove" = some (.ref a_NoMove)
  g_BadOffice : mg "BadOffice" = some (.ref a_BadOffice)
  a_Office : Addr
  g_Office : mg "Office" = some (.ref a_Office)
  a_RawOffice : Addr
  g_RawOffice : mg "RawOffice" = some (.ref a_RawOffice)
  n_super : mg "super" = none
  x_NoStep : PySem.W.excIn K a_NoStep He.veBase "ValueError.__new__" = true
  k_NoStep : PySem.W.keepIn K (.ref a_NoStep) = true
  s_NoStep : PySem.W.subIn K (.ref a_NoStep) (.type "BaseException") = some true
  t_NoStep : PySem.W.typeIn K (.ref a_NoStep) = some (.type "type")
  x_NoMark : PySem.W.excIn K a_NoMark He.veBase "ValueError.__new__" = true
  k_NoMark : PySem.W.keepIn K (.ref a_NoMark) = true
  s_NoMark : PySem.W.subIn K (.ref a_NoMark) (.type "BaseException") = some true
  t_NoMark : PySem.W.typeIn K (.ref a_NoMark) = some (.type "type")
  x_NothingDone : PySem.W.excIn K a_NothingDone He.veBase "ValueError.__new__" = true
  k_NothingDone : PySem.W.keepIn K (.ref a_NothingDone) = true
  s_NothingDone : PySem.W.subIn K (.ref a_NothingDone) (.type "BaseException") = some true
  t_NothingDone : PySem.W.typeIn K (.ref a_NothingDone) = some (.type "type")
  x_NoStanding : PySem.W.excIn K a_NoStanding He.veBase "ValueError.__new__" = true
  k_NoStanding : PySem.W.keepIn K (.ref a_NoStanding) = true
  s_NoStanding : PySem.W.subIn K (.ref a_NoStanding) (.type "BaseException") = some true
  t_NoStanding : PySem.W.typeIn K (.ref a_NoStanding) = some (.type "type")
  x_NoMove : PySem.W.excIn K a_NoMove He.veBase "ValueError.__new__" = true
  k_NoMove : PySem.W.keepIn K (.ref a_NoMove) = true
  s_NoMove : PySem.W.subIn K (.ref a_NoMove) (.type "BaseException") = some true
  t_NoMove : PySem.W.typeIn K (.ref a_NoMove) = some (.type "type")
  u_BadOffice : SupI P K a_BadOffice f_BadOffice (D_BadOffice.nf cc_BadOffice ca_BadOffice) cc_BadOffice
  fd_BadOffice : ∃ doc pm ctv, d_BadOffice_init = (D_BadOffice.nf cc_BadOffice ca_BadOffice).fd doc pm ctv ∧ ∃ oc od osl, K.lookup f_BadOffice = some ⟨oc, od, .func d_BadOffice_init, osl⟩
  i_BadOffice : PySem.W.findIn K (.ref a_BadOffice) "__init__" = some (some (.ref f_BadOffice))
  t_BadOffice : PySem.W.typeIn K (.ref f_BadOffice) = some (.type "function")
  no_BadOffice : PySem.W.findIn K (.ref a_BadOffice) "part" = some none
  b_BadOffice_init : Binds K d_BadOffice_init P_BadOffice_init []
def sp_bad (C : Addr) : Sp := fun xs H Q _ => ∃ a m, xs = [.ref a, .str m] ∧ H a = some (exo a C none) ∧ ∀ dx, H dx = none → dx ≠ a → Q .non (upd (upd H dx (exd dx [("part", .str m)])) a (exo a C (some dx)))
theorem ok_BadOffice_init {P : Program} {w : World} {K : PySem.W.Frag} {mg : Str → Option Value} {base : Heap} {CX : CXT} (Er : Err P K mg) (htop : (P.main.scope.names.lookup ("super" : Str)).isSome = false) : FnOk P w K mg base CX 1 Er.f_BadOffice Er.d_BadOffice_init P_BadOffice_init (sp_bad Er.a_BadOffice) := by
  refine fn_super Er.u_BadOffice Er.fd_BadOffice sc_BadOffice_init rfl rfl rfl Er.n_super (show (defScope s_BadOffice_init).names.lookup ("super" : Str) = some .globalImplicit by decide +kernel) htop (fun L => rfl) (fun L => rfl) (fun L => rfl) ?_ ?_ ?_
  · rintro vs H Q E ⟨a, m, rfl, _⟩
    rfl
  · rintro vs H Q E ⟨a, m, rfl, h, _⟩
    exact ⟨a, rfl, h⟩
  · rintro A outer s H vs Q E hr ⟨a, m, rfl, h, q⟩
    refine ⟨_, pss_one (ps_ost (pv 0) (pv 1)), ?_⟩
    exact ⟨_, rfl, _, rfl, a, Er.a_BadOffice, rfl, Er.u_BadOffice.oex, Er.no_BadOffice, .inl ⟨h, q⟩⟩
end Fd
set_option Elab.async false
set_option linter.all false
set_option maxRecDepth 100000
set_option maxHeartbeats 4000000
namespace Fd
open PySem PySem.Spec PyProof.Rows L2 PySem.W
structure ErrQ {P : Program} {K : PySem.W.Frag} {mg : Str → Option Value} (Er : Err P K mg) : Prop where
  c_NoStep : ExcC K Er.a_NoStep
  c_NoMark : ExcC K Er.a_NoMark
  c_NothingDone : ExcC K Er.a_NothingDone
  c_NoStanding : ExcC K Er.a_NoStanding
  c_NoMove : ExcC K Er.a_NoMove
  c_BadOffice : ExcC K Er.a_BadOffice
  m_NoStep : exmOne K (.ref Er.a_NoStep) (.ref Er.a_FalseError) = some true
  m_NoMark : exmOne K (.ref Er.a_NoMark) (.ref Er.a_FalseError) = some true
  m_NothingDone : exmOne K (.ref Er.a_NothingDone) (.ref Er.a_FalseError) = some true
  m_NoStanding : exmOne K (.ref Er.a_NoStanding) (.ref Er.a_FalseError) = some true
  m_NoMove : exmOne K (.ref Er.a_NoMove) (.ref Er.a_FalseError) = some true
  m_BadOffice : exmOne K (.ref Er.a_BadOffice) (.ref Er.a_BadOffice) = some true
  is_ : ∀ (i j : Fin 6), kitOne K (.ref ([Er.a_NoStanding, Er.a_NoStep, Er.a_NoMove, Er.a_NoMark, Er.a_NothingDone, Er.a_BadOffice].getD i 0)) (.ref ([Er.a_NoStanding, Er.a_NoStep, Er.a_NoMove, Er.a_NoMark, Er.a_NothingDone, Er.a_BadOffice].getD j 0)) = some (decide (i = j))
  xf : XfC K Er.a_BadOffice
  o1 : PySem.W.findIn K (.ref Er.a_Office) "__class__" = some (some (.builtin "object.__class__"))
  o2 : PySem.W.specialIn K (.builtin "object.__class__") "__get__" = some (some (.builtin "getset_descriptor.__get__"))
  o3 : PySem.W.takesIn K (.builtin "object.__class__") = some true
  o4 : PySem.W.mroIn K Er.a_Office (.type "object") = some true
  o5 : kitOne K (.ref Er.a_Office) (.type "int") = some false
  o6 : kitOne K (.ref Er.a_Office) (.type "bool") = some false
  o7 : kitOne K (.ref Er.a_Office) (.ref Er.a_Office) = some true
  r1 : PySem.W.findIn K (.ref Er.a_RawOffice) "__class__" = some (some (.builtin "object.__class__"))
  r4 : PySem.W.mroIn K Er.a_RawOffice (.type "object") = some true
  r7 : kitOne K (.ref Er.a_RawOffice) (.ref Er.a_Office) = some true
end Fd
set_option Elab.async false
set_option linter.all false
set_option maxRecDepth 100000
set_option maxHeartbeats 0
namespace Fd
open PySem PySem.Spec PyProof.Rows L2
def excCB (K : PySem.W.Frag) (D : Addr) : Bool := decide (PySem.W.findIn K (.ref D) "__getattribute__" = some (some (.builtin "BaseException.__getattribute__"))) && (decide (PySem.W.findIn K (.ref D) "__getattr__" = some none) &&
  (decide (PySem.W.subIn K (.ref D) (.type "BaseException") = some true) && (PySem.W.hasDictIn K D && (decide (PySem.W.findIn K (.ref D) "__class__" = some (some (.builtin "object.__class__"))) &&
  (decide (PySem.W.specialIn K (.builtin "object.__class__") "__get__" = some (some (.builtin "getset_descriptor.__get__"))) && (decide (PySem.W.takesIn K (.builtin "object.__class__") = some true) && decide (PySem.W.mroIn K D (.type "object") = some true)))))))
theorem excCB_ok {K : PySem.W.Frag} {D : Addr} (h : excCB K D = true) : ExcC K D := by
  unfold excCB at h
  obtain ⟨h1, h⟩ := He.ba h
  obtain ⟨h2, h⟩ := He.ba h
  obtain ⟨h3, h⟩ := He.ba h
  obtain ⟨h4, h⟩ := He.ba h
  obtain ⟨h5, h⟩ := He.ba h
  obtain ⟨h6, h⟩ := He.ba h
  obtain ⟨h7, h8⟩ := He.ba h
  exact ⟨of_decide_eq_true h1, of_decide_eq_true h2, of_decide_eq_true h3, h4, of_decide_eq_true h5, of_decide_eq_true h6, of_decide_eq_true h7, of_decide_eq_true h8⟩
def D_is_integer : He.DefD := ⟨("is_integer", none), "is_integer", "is_integer", defArgs s_is_integer, defBody s_is_integer, defScope s_is_integer, [], []⟩
def D_is_within : He.DefD := ⟨("is_within", none), "is_within", "is_within", defArgs s_is_within, defBody s_is_within, defScope s_is_within, [], []⟩
def D_is_pair : He.DefD := ⟨("is_pair", none), "is_pair", "is_pair", defArgs s_is_pair, defBody s_is_pair, defScope s_is_pair, [], []⟩
def D_is_triple : He.DefD := ⟨("is_triple", none), "is_triple", "is_triple", defArgs s_is_triple, defBody s_is_triple, defScope s_is_triple, [], []⟩
def D_are_ascending : He.DefD := ⟨("are_ascending", none), "are_ascending", "are_ascending", defArgs s_are_ascending, defBody s_are_ascending, defScope s_are_ascending, [], []⟩
def D_are_sizes : He.DefD := ⟨("are_sizes", none), "are_sizes", "are_sizes", defArgs s_are_sizes, defBody s_are_sizes, defScope s_are_sizes, [], []⟩
def D_is_move : He.DefD := ⟨("is_move", none), "is_move", "is_move", defArgs s_is_move, defBody s_is_move, defScope s_is_move, [], []⟩
def D_are_moves : He.DefD := ⟨("are_moves", none), "are_moves", "are_moves", defArgs s_are_moves, defBody s_are_moves, defScope s_are_moves, [], []⟩
def D_are_closings : He.DefD := ⟨("are_closings", none), "are_closings", "are_closings", defArgs s_are_closings, defBody s_are_closings, defScope s_are_closings, [], []⟩
def D_Office_init : He.DefD := ⟨("Office", some "__init__"), "__init__", "Office.__init__", defArgs s_Office_init, defBody s_Office_init, defScope s_Office_init, [], []⟩
def D_Office_keep : He.DefD := ⟨("Office", some "keep"), "keep", "Office.keep", defArgs s_Office_keep, defBody s_Office_keep, defScope s_Office_keep, [], []⟩
def D_Office_eq : He.DefD := ⟨("Office", some "__eq__"), "__eq__", "Office.__eq__", defArgs s_Office_eq, defBody s_Office_eq, defScope s_Office_eq, [], []⟩
def D_RawOffice_init : He.DefD := ⟨("RawOffice", some "__init__"), "__init__", "RawOffice.__init__", defArgs s_RawOffice_init, defBody s_RawOffice_init, defScope s_RawOffice_init, [], []⟩
def D_is_mark : He.DefD := ⟨("is_mark", none), "is_mark", "is_mark", defArgs s_is_mark, defBody s_is_mark, defScope s_is_mark, [], []⟩
def D_is_note : He.DefD := ⟨("is_note", none), "is_note", "is_note", defArgs s_is_note, defBody s_is_note, defScope s_is_note, [], []⟩
def D_is_step : He.DefD := ⟨("is_step", none), "is_step", "is_step", defArgs s_is_step, defBody s_is_step, defScope s_is_step, [], []⟩
def D_with_item : He.DefD := ⟨("with_item", none), "with_item", "with_item", defArgs s_with_item, defBody s_with_item, defScope s_with_item, [], []⟩
def D_exchanged : He.DefD := ⟨("exchanged", none), "exchanged", "exchanged", defArgs s_exchanged, defBody s_exchanged, defScope s_exchanged, [], []⟩
def D_Shop_init : He.DefD := ⟨("Shop", some "__init__"), "__init__", "Shop.__init__", defArgs s_Shop_init, defBody s_Shop_init, defScope s_Shop_init, [], []⟩
def D_Shop_check_standing : He.DefD := ⟨("Shop", some "check_standing"), "check_standing", "Shop.check_standing", defArgs s_Shop_check_standing, defBody s_Shop_check_standing, defScope s_Shop_check_standing, [], []⟩
def D_Shop_check_mark : He.DefD := ⟨("Shop", some "check_mark"), "check_mark", "Shop.check_mark", defArgs s_Shop_check_mark, defBody s_Shop_check_mark, defScope s_Shop_check_mark, [], []⟩
def D_Shop_change : He.DefD := ⟨("Shop", some "change"), "change", "Shop.change", defArgs s_Shop_change, defBody s_Shop_change, defScope s_Shop_change, [], []⟩
def D_Shop_put : He.DefD := ⟨("Shop", some "put"), "put", "Shop.put", defArgs s_Shop_put, defBody s_Shop_put, defScope s_Shop_put, [], []⟩
def D_Shop_strike : He.DefD := ⟨("Shop", some "strike"), "strike", "Shop.strike", defArgs s_Shop_strike, defBody s_Shop_strike, defScope s_Shop_strike, [], []⟩
def D_Shop_add : He.DefD := ⟨("Shop", some "add"), "add", "Shop.add", defArgs s_Shop_add, defBody s_Shop_add, defScope s_Shop_add, [], []⟩
def D_Shop_shuts : He.DefD := ⟨("Shop", some "shuts"), "shuts", "Shop.shuts", defArgs s_Shop_shuts, defBody s_Shop_shuts, defScope s_Shop_shuts, [], []⟩
def D_Shop_shuts_not : He.DefD := ⟨("Shop", some "shuts_not"), "shuts_not", "Shop.shuts_not", defArgs s_Shop_shuts_not, defBody s_Shop_shuts_not, defScope s_Shop_shuts_not, [], []⟩
def D_Shop_office : He.DefD := ⟨("Shop", some "office"), "office", "Shop.office", defArgs s_Shop_office, defBody s_Shop_office, defScope s_Shop_office, [], []⟩
def D_Shop_back : He.DefD := ⟨("Shop", some "back"), "back", "Shop.back", defArgs s_Shop_back, defBody s_Shop_back, defScope s_Shop_back, [], []⟩
def D_Shop_depth : He.DefD := ⟨("Shop", some "depth"), "depth", "Shop.depth", defArgs s_Shop_depth, defBody s_Shop_depth, defScope s_Shop_depth, [], []⟩
def D_moves_by_slip : He.DefD := ⟨("moves_by_slip", none), "moves_by_slip", "moves_by_slip", defArgs s_moves_by_slip, defBody s_moves_by_slip, defScope s_moves_by_slip, [], []⟩
def D_joint_moves : He.DefD := ⟨("joint_moves", none), "joint_moves", "joint_moves", defArgs s_joint_moves, defBody s_joint_moves, defScope s_joint_moves, [], []⟩
def D_joint_lasts : He.DefD := ⟨("joint_lasts", none), "joint_lasts", "joint_lasts", defArgs s_joint_lasts, defBody s_joint_lasts, defScope s_joint_lasts, [], []⟩
def D_chained : He.DefD := ⟨("chained", none), "chained", "chained", defArgs s_chained, defBody s_chained, defScope s_chained, [], []⟩
def D_l_hand : He.DefD := ⟨("_law_hand", none), "_law_hand", "_law_hand", defArgs s_l_hand, defBody s_l_hand, defScope s_l_hand, [], []⟩
def D_l_draw : He.DefD := ⟨("_law_draw", none), "_law_draw", "_law_draw", defArgs s_l_draw, defBody s_l_draw, defScope s_l_draw, [], []⟩
def D_l_sizes : He.DefD := ⟨("_law_sizes", none), "_law_sizes", "_law_sizes", defArgs s_l_sizes, defBody s_l_sizes, defScope s_l_sizes, [], []⟩
def D_l_moves : He.DefD := ⟨("_law_moves", none), "_law_moves", "_law_moves", defArgs s_l_moves, defBody s_l_moves, defScope s_l_moves, [], []⟩
def D_l_closings : He.DefD := ⟨("_law_closings", none), "_law_closings", "_law_closings", defArgs s_l_closings, defBody s_l_closings, defScope s_l_closings, [], []⟩
def D_l_office : He.DefD := ⟨("_law_office", none), "_law_office", "_law_office", defArgs s_l_office, defBody s_l_office, defScope s_l_office, [], []⟩
def D_l_asked : He.DefD := ⟨("_law_asked", none), "_law_asked", "_law_asked", defArgs s_l_asked, defBody s_l_asked, defScope s_l_asked, [], []⟩
def D_l_part : He.DefD := ⟨("_law_part", none), "_law_part", "_law_part", defArgs s_l_part, defBody s_l_part, defScope s_l_part, [], []⟩
def D_l_run : He.DefD := ⟨("_law_run", none), "_law_run", "_law_run", defArgs s_l_run, defBody s_l_run, defScope s_l_run, [], []⟩
def D_l_odd : He.DefD := ⟨("_law_odd", none), "_law_odd", "_law_odd", defArgs s_l_odd, defBody s_l_odd, defScope s_l_odd, [], []⟩
def D_l_kept : He.DefD := ⟨("_law_kept", none), "_law_kept", "_law_kept", defArgs s_l_kept, defBody s_l_kept, defScope s_l_kept, [], []⟩
def D_l_bad : He.DefD := ⟨("_law_bad", none), "_law_bad", "_law_bad", defArgs s_l_bad, defBody s_l_bad, defScope s_l_bad, [], []⟩
def D_l_beyond : He.DefD := ⟨("_law_beyond", none), "_law_beyond", "_law_beyond", defArgs s_l_beyond, defBody s_l_beyond, defScope s_l_beyond, [], []⟩
def D_law : He.DefD := ⟨("law", none), "law", "law", defArgs s_law, defBody s_law, defScope s_law, [], []⟩
def D_RawOffice_keep : He.DefD := ⟨("RawOffice", some "keep"), "keep", "Office.keep", defArgs s_Office_keep, defBody s_Office_keep, defScope s_Office_keep, [], []⟩
def D_RawOffice___eq__ : He.DefD := ⟨("RawOffice", some "__eq__"), "__eq__", "Office.__eq__", defArgs s_Office_eq, defBody s_Office_eq, defScope s_Office_eq, [], []⟩
def fnL : List He.DefD := [D_is_integer, D_is_within, D_is_pair, D_is_triple, D_are_ascending, D_are_sizes, D_is_move, D_are_moves, D_are_closings, D_Office_init, D_Office_keep, D_Office_eq, D_RawOffice_init, D_is_mark, D_is_note, D_is_step, D_with_item, D_exchanged, D_Shop_init, D_Shop_check_standing] ++ [D_Shop_check_mark, D_Shop_change, D_Shop_put, D_Shop_strike, D_Shop_add, D_Shop_shuts, D_Shop_shuts_not, D_Shop_office, D_Shop_back, D_Shop_depth, D_moves_by_slip, D_joint_moves, D_joint_lasts, D_chained, D_l_hand, D_l_draw, D_l_sizes, D_l_moves, D_l_closings, D_l_office] ++ [D_l_asked, D_l_part, D_l_run, D_l_odd, D_l_kept, D_l_bad, D_l_beyond, D_law, D_RawOffice_keep, D_RawOffice___eq__]
def faL : List He.Fa := ([.glo "is_integer", .glo "is_within", .glo "is_pair", .glo "is_triple", .glo "are_ascending", .glo "are_sizes", .glo "is_move", .glo "are_moves", .glo "are_closings", .glo "is_mark", .glo "is_note", .glo "is_step", .glo "with_item", .glo "exchanged", .glo "moves_by_slip", .glo "joint_moves", .glo "joint_lasts", .glo "chained", .glo "_law_hand", .glo "_law_draw"] : List He.Fa) ++ ([.glo "_law_sizes", .glo "_law_moves", .glo "_law_closings", .glo "_law_office", .glo "_law_asked", .glo "_law_part", .glo "_law_run", .glo "_law_odd", .glo "_law_kept", .glo "_law_bad", .glo "_law_beyond", .glo "law", .free "abs", .free "all", .free "bool", .free "int", .free "isinstance", .free "len", .free "list", .free "range"] : List He.Fa) ++ ([.free "repr", .free "sorted", .free "tuple", .free "zip", .int "MOST_SIZE" (4), .int "MOST_STANDINGS" (20), .glo "Office", .cls "Office", .mkr "Office", .noat "Office" "sizes", .noat "Office" "moves", .noat "Office" "closings", .noat "Office" "kept_goals", .meth "Office" "keep", .meth "Office" "__eq__", .glo "RawOffice", .cls "RawOffice", .mkr "RawOffice", .noat "RawOffice" "sizes", .noat "RawOffice" "moves"] : List He.Fa) ++ ([.noat "RawOffice" "closings", .noat "RawOffice" "kept_goals", .meth "RawOffice" "keep", .meth "RawOffice" "__eq__", .glo "Shop", .cls "Shop", .mkr "Shop", .noat "Shop" "kept_now", .noat "Shop" "kept_past", .meth "Shop" "check_standing", .meth "Shop" "check_mark", .meth "Shop" "change", .meth "Shop" "put", .meth "Shop" "strike", .meth "Shop" "add", .meth "Shop" "shuts", .meth "Shop" "shuts_not", .meth "Shop" "office", .meth "Shop" "back", .meth "Shop" "depth"] : List He.Fa) ++ ([.glo "FalseError", .glo "NoStep", .glo "NoMark", .glo "NothingDone", .glo "NoStanding", .glo "NoMove", .glo "BadOffice", .glo "Office", .glo "RawOffice", .free "super"] : List He.Fa)
def looseL : List PySem.Str := (["_wall", "FalseError", "BadOffice", "TooMany", "NotChained", "NoStep", "NoMark", "NothingDone", "NoStanding", "NoMove", "is_integer", "is_within", "is_pair", "is_triple", "are_ascending", "MOST_SIZE", "MOST_STANDINGS", "are_sizes", "is_move", "are_moves"] : List PySem.Str) ++ (["are_closings", "Office", "RawOffice", "is_mark", "is_note", "is_step", "goals_of", "all_steps", "MOST_SETS", "DEAD", "Reader", "lasts_of", "sorted_by_marks", "Twins", "first_level", "next_level", "are_alike", "begin_triple", "ways_on", "goals_on"] : List PySem.Str) ++ (["lasts_against", "all_triples", "elders_of", "bad_pairs", "bad_of", "still_level", "least_k", "with_item", "exchanged", "Shop", "moves_by_slip", "joint_moves", "joint_lasts", "chained", "_law_hand", "_law_draw", "_law_sizes", "_law_moves", "_law_closings", "_law_office"] : List PySem.Str) ++ (["_law_asked", "_law_part", "_law_run", "_law_odd", "_law_kept", "_law_bad", "_law_beyond"] : List PySem.Str)
abbrev RR : PySem.W.OpenRow := PySem.W.OpenLaw.row PySem.Challenge.rw_falsedays_k90_shop_refused
def sdL : List SupD := [D_BadOffice]
def xsL : List (PySem.W.Frag → Bool) := [
  fun K => PySem.W.excIn K (He.ga K "NoStep") He.veBase "ValueError.__new__",
  fun K => PySem.W.keepIn K (.ref (He.ga K "NoStep")),
  fun K => decide (PySem.W.subIn K (.ref (He.ga K "NoStep")) (.type "BaseException") = some true),
  fun K => decide (PySem.W.typeIn K (.ref (He.ga K "NoStep")) = some (.type "type")),
  fun K => PySem.W.excIn K (He.ga K "NoMark") He.veBase "ValueError.__new__",
  fun K => PySem.W.keepIn K (.ref (He.ga K "NoMark")),
  fun K => decide (PySem.W.subIn K (.ref (He.ga K "NoMark")) (.type "BaseException") = some true),
  fun K => decide (PySem.W.typeIn K (.ref (He.ga K "NoMark")) = some (.type "type")),
  fun K => PySem.W.excIn K (He.ga K "NothingDone") He.veBase "ValueError.__new__",
  fun K => PySem.W.keepIn K (.ref (He.ga K "NothingDone")),
  fun K => decide (PySem.W.subIn K (.ref (He.ga K "NothingDone")) (.type "BaseException") = some true),
  fun K => decide (PySem.W.typeIn K (.ref (He.ga K "NothingDone")) = some (.type "type")),
  fun K => PySem.W.excIn K (He.ga K "NoStanding") He.veBase "ValueError.__new__",
  fun K => PySem.W.keepIn K (.ref (He.ga K "NoStanding")),
  fun K => decide (PySem.W.subIn K (.ref (He.ga K "NoStanding")) (.type "BaseException") = some true),
  fun K => decide (PySem.W.typeIn K (.ref (He.ga K "NoStanding")) = some (.type "type")),
  fun K => PySem.W.excIn K (He.ga K "NoMove") He.veBase "ValueError.__new__",
  fun K => PySem.W.keepIn K (.ref (He.ga K "NoMove")),
  fun K => decide (PySem.W.subIn K (.ref (He.ga K "NoMove")) (.type "BaseException") = some true),
  fun K => decide (PySem.W.typeIn K (.ref (He.ga K "NoMove")) = some (.type "type")),
  fun K => decide (PySem.W.findIn K (.ref (He.ga K "BadOffice")) "__init__" = some (some (.ref (iAd K "BadOffice")))),
  fun K => decide (PySem.W.typeIn K (.ref (iAd K "BadOffice")) = some (.type "function")),
  fun K => decide (PySem.W.findIn K (.ref (He.ga K "BadOffice")) "part" = some none),
  fun K => xfB K (He.ga K "BadOffice"),
  fun K => excCB K (He.ga K "NoStep"),
  fun K => decide (PySem.W.exmOne K (.ref (He.ga K "NoStep")) (.ref (He.ga K "FalseError")) = some true),
  fun K => excCB K (He.ga K "NoMark"),
  fun K => decide (PySem.W.exmOne K (.ref (He.ga K "NoMark")) (.ref (He.ga K "FalseError")) = some true),
  fun K => excCB K (He.ga K "NothingDone"),
  fun K => decide (PySem.W.exmOne K (.ref (He.ga K "NothingDone")) (.ref (He.ga K "FalseError")) = some true),
  fun K => excCB K (He.ga K "NoStanding"),
  fun K => decide (PySem.W.exmOne K (.ref (He.ga K "NoStanding")) (.ref (He.ga K "FalseError")) = some true),
  fun K => excCB K (He.ga K "NoMove"),
  fun K => decide (PySem.W.exmOne K (.ref (He.ga K "NoMove")) (.ref (He.ga K "FalseError")) = some true),
  fun K => excCB K (He.ga K "BadOffice"),
  fun K => decide (PySem.W.exmOne K (.ref (He.ga K "BadOffice")) (.ref (He.ga K "BadOffice")) = some true),
  fun K => (List.finRange 6).all fun i => (List.finRange 6).all fun j => decide (PySem.W.kitOne K (.ref ([(He.ga K "NoStanding"), (He.ga K "NoStep"), (He.ga K "NoMove"), (He.ga K "NoMark"), (He.ga K "NothingDone"), (He.ga K "BadOffice")].getD i 0)) (.ref ([(He.ga K "NoStanding"), (He.ga K "NoStep"), (He.ga K "NoMove"), (He.ga K "NoMark"), (He.ga K "NothingDone"), (He.ga K "BadOffice")].getD j 0)) = some (decide (i = j))),
  fun K => decide (PySem.W.findIn K (.ref (He.ga K "Office")) "__class__" = some (some (.builtin "object.__class__"))),
  fun K => decide (PySem.W.specialIn K (.builtin "object.__class__") "__get__" = some (some (.builtin "getset_descriptor.__get__"))),
  fun K => decide (PySem.W.takesIn K (.builtin "object.__class__") = some true),
  fun K => decide (PySem.W.mroIn K (He.ga K "Office") (.type "object") = some true),
  fun K => decide (PySem.W.kitOne K (.ref (He.ga K "Office")) (.type "int") = some false),
  fun K => decide (PySem.W.kitOne K (.ref (He.ga K "Office")) (.type "bool") = some false),
  fun K => decide (PySem.W.kitOne K (.ref (He.ga K "Office")) (.ref (He.ga K "Office")) = some true),
  fun K => decide (PySem.W.findIn K (.ref (He.ga K "RawOffice")) "__class__" = some (some (.builtin "object.__class__"))),
  fun K => decide (PySem.W.mroIn K (He.ga K "RawOffice") (.type "object") = some true),
  fun K => decide (PySem.W.kitOne K (.ref (He.ga K "RawOffice")) (.ref (He.ga K "Office")) = some true)]
abbrev hkk : PySem.W.Hook := hookX 5 faL fnL sdL xsL
def obb (s : PySem.W.SharedT) : AlX := obsXG 5 faL fnL sdL xsL (HandSHeadRun.getT s)
theorem obb_eq (s : PySem.W.SharedT) : obb s = hkk.obs s.abs := obsXG_eq (HandSHeadRun.getT_eq s)
theorem runn (w : World) : HandSHeadRun.RunEq RR (PySem.W.view RR.prog [77]) hkk obb 6000 looseL w := by
  intro os
  kernel_rfl
end Fd
set_option Elab.async false
set_option linter.all false
set_option maxRecDepth 100000
set_option maxHeartbeats 0
namespace Fd
open PySem PySem.Spec PyProof.Rows L2
theorem fun_ofD {K : PySem.W.Frag} {x qual : Str} {st : Stmt} {f : Addr} {fd : FuncData} (F : FunD K x qual (defArgs st) (defBody st) (defScope st) [] [] f fd) : Fun K x qual st f fd := by
  obtain ⟨oc, od, dV, kV, doc, pm, an, cdv, ct, osl, e, l, c, dv, _⟩ := F.ex
  cases dv with
  | inl h => exact ⟨⟨oc, od, kV, doc, pm, an, cdv, ct, osl, by rw [← h.2]; exact e, l, c⟩, F.kp⟩
  | inr h => exact absurd rfl h.1
theorem txt_of {K : PySem.W.Frag} {h : Heap} {mg : Str → Option Value} (X : K.In h) (G : h.Ns mainGlobals mg) (c : He.SaysD faL fnL K) : ∃ T : Txt K mg, True := by
  obtain ⟨d_is_integer, E_is_integer⟩ := c.def_ 0 (d := D_is_integer) rfl
  have F_is_integer : Fun K _ _ s_is_integer _ d_is_integer := fun_ofD E_is_integer
  have b_is_integer : Binds K d_is_integer P_is_integer [] := F_is_integer.binds fun _ _ _ _ _ _ us hl => match us, hl with | [_], _ => rfl
  obtain ⟨d_is_within, E_is_within⟩ := c.def_ 1 (d := D_is_within) rfl
  have F_is_within : Fun K _ _ s_is_within _ d_is_within := fun_ofD E_is_within
  have b_is_within : Binds K d_is_within P_is_within [] := F_is_within.binds fun _ _ _ _ _ _ us hl => match us, hl with | [_, _, _], _ => rfl
  obtain ⟨d_is_pair, E_is_pair⟩ := c.def_ 2 (d := D_is_pair) rfl
  have F_is_pair : Fun K _ _ s_is_pair _ d_is_pair := fun_ofD E_is_pair
  have b_is_pair : Binds K d_is_pair P_is_pair [] := F_is_pair.binds fun _ _ _ _ _ _ us hl => match us, hl with | [_], _ => rfl
  obtain ⟨d_is_triple, E_is_triple⟩ := c.def_ 3 (d := D_is_triple) rfl
  have F_is_triple : Fun K _ _ s_is_triple _ d_is_triple := fun_ofD E_is_triple
  have b_is_triple : Binds K d_is_triple P_is_triple [] := F_is_triple.binds fun _ _ _ _ _ _ us hl => match us, hl with | [_], _ => rfl
  obtain ⟨d_are_ascending, E_are_ascending⟩ := c.def_ 4 (d := D_are_ascending) rfl
  have F_are_ascending : Fun K _ _ s_are_ascending _ d_are_ascending := fun_ofD E_are_ascending
  have b_are_ascending : Binds K d_are_ascending P_are_ascending [] := F_are_ascending.binds fun _ _ _ _ _ _ us hl => match us, hl with | [_], _ => rfl
  obtain ⟨d_are_sizes, E_are_sizes⟩ := c.def_ 5 (d := D_are_sizes) rfl
  have F_are_sizes : Fun K _ _ s_are_sizes _ d_are_sizes := fun_ofD E_are_sizes
  have b_are_sizes : Binds K d_are_sizes P_are_sizes [] := F_are_sizes.binds fun _ _ _ _ _ _ us hl => match us, hl with | [_], _ => rfl
  obtain ⟨d_is_move, E_is_move⟩ := c.def_ 6 (d := D_is_move) rfl
  have F_is_move : Fun K _ _ s_is_move _ d_is_move := fun_ofD E_is_move
  have b_is_move : Binds K d_is_move P_is_move [] := F_is_move.binds fun _ _ _ _ _ _ us hl => match us, hl with | [_, _, _], _ => rfl
  obtain ⟨d_are_moves, E_are_moves⟩ := c.def_ 7 (d := D_are_moves) rfl
  have F_are_moves : Fun K _ _ s_are_moves _ d_are_moves := fun_ofD E_are_moves
  have b_are_moves : Binds K d_are_moves P_are_moves [] := F_are_moves.binds fun _ _ _ _ _ _ us hl => match us, hl with | [_, _], _ => rfl
  obtain ⟨d_are_closings, E_are_closings⟩ := c.def_ 8 (d := D_are_closings) rfl
  have F_are_closings : Fun K _ _ s_are_closings _ d_are_closings := fun_ofD E_are_closings
  have b_are_closings : Binds K d_are_closings P_are_closings [] := F_are_closings.binds fun _ _ _ _ _ _ us hl => match us, hl with | [_, _, _], _ => rfl
  obtain ⟨d_Office_init, E_Office_init⟩ := c.def_ 9 (d := D_Office_init) rfl
  have F_Office_init : Fun K _ _ s_Office_init _ d_Office_init := fun_ofD E_Office_init
  have b_Office_init : Binds K d_Office_init P_Office_init [] := F_Office_init.binds fun _ _ _ _ _ _ us hl => match us, hl with | [_, _, _, _], _ => rfl
  obtain ⟨d_Office_keep, E_Office_keep⟩ := c.def_ 10 (d := D_Office_keep) rfl
  have F_Office_keep : Fun K _ _ s_Office_keep _ d_Office_keep := fun_ofD E_Office_keep
  have b_Office_keep : Binds K d_Office_keep P_Office_keep [] := F_Office_keep.binds fun _ _ _ _ _ _ us hl => match us, hl with | [_, _, _, _], _ => rfl
  obtain ⟨d_Office_eq, E_Office_eq⟩ := c.def_ 11 (d := D_Office_eq) rfl
  have F_Office_eq : Fun K _ _ s_Office_eq _ d_Office_eq := fun_ofD E_Office_eq
  have b_Office_eq : Binds K d_Office_eq P_Office_eq [] := F_Office_eq.binds fun _ _ _ _ _ _ us hl => match us, hl with | [_, _], _ => rfl
  obtain ⟨d_RawOffice_init, E_RawOffice_init⟩ := c.def_ 12 (d := D_RawOffice_init) rfl
  have F_RawOffice_init : Fun K _ _ s_RawOffice_init _ d_RawOffice_init := fun_ofD E_RawOffice_init
  have b_RawOffice_init : Binds K d_RawOffice_init P_RawOffice_init [] := F_RawOffice_init.binds fun _ _ _ _ _ _ us hl => match us, hl with | [_, _, _, _], _ => rfl
  obtain ⟨d_is_mark, E_is_mark⟩ := c.def_ 13 (d := D_is_mark) rfl
  have F_is_mark : Fun K _ _ s_is_mark _ d_is_mark := fun_ofD E_is_mark
  have b_is_mark : Binds K d_is_mark P_is_mark [] := F_is_mark.binds fun _ _ _ _ _ _ us hl => match us, hl with | [_, _], _ => rfl
  obtain ⟨d_is_note, E_is_note⟩ := c.def_ 14 (d := D_is_note) rfl
  have F_is_note : Fun K _ _ s_is_note _ d_is_note := fun_ofD E_is_note
  have b_is_note : Binds K d_is_note P_is_note [] := F_is_note.binds fun _ _ _ _ _ _ us hl => match us, hl with | [_, _], _ => rfl
  obtain ⟨d_is_step, E_is_step⟩ := c.def_ 15 (d := D_is_step) rfl
  have F_is_step : Fun K _ _ s_is_step _ d_is_step := fun_ofD E_is_step
  have b_is_step : Binds K d_is_step P_is_step [] := F_is_step.binds fun _ _ _ _ _ _ us hl => match us, hl with | [_, _], _ => rfl
  obtain ⟨d_with_item, E_with_item⟩ := c.def_ 16 (d := D_with_item) rfl
  have F_with_item : Fun K _ _ s_with_item _ d_with_item := fun_ofD E_with_item
  have b_with_item : Binds K d_with_item P_with_item [] := F_with_item.binds fun _ _ _ _ _ _ us hl => match us, hl with | [_, _], _ => rfl
  obtain ⟨d_exchanged, E_exchanged⟩ := c.def_ 17 (d := D_exchanged) rfl
  have F_exchanged : Fun K _ _ s_exchanged _ d_exchanged := fun_ofD E_exchanged
  have b_exchanged : Binds K d_exchanged P_exchanged [] := F_exchanged.binds fun _ _ _ _ _ _ us hl => match us, hl with | [_, _, _], _ => rfl
  obtain ⟨d_Shop_init, E_Shop_init⟩ := c.def_ 18 (d := D_Shop_init) rfl
  have F_Shop_init : Fun K _ _ s_Shop_init _ d_Shop_init := fun_ofD E_Shop_init
  have b_Shop_init : Binds K d_Shop_init P_Shop_init [] := F_Shop_init.binds fun _ _ _ _ _ _ us hl => match us, hl with | [_, _], _ => rfl
  obtain ⟨d_Shop_check_standing, E_Shop_check_standing⟩ := c.def_ 19 (d := D_Shop_check_standing) rfl
  have F_Shop_check_standing : Fun K _ _ s_Shop_check_standing _ d_Shop_check_standing := fun_ofD E_Shop_check_standing
  have b_Shop_check_standing : Binds K d_Shop_check_standing P_Shop_check_standing [] := F_Shop_check_standing.binds fun _ _ _ _ _ _ us hl => match us, hl with | [_, _], _ => rfl
  obtain ⟨d_Shop_check_mark, E_Shop_check_mark⟩ := c.def_ 20 (d := D_Shop_check_mark) rfl
  have F_Shop_check_mark : Fun K _ _ s_Shop_check_mark _ d_Shop_check_mark := fun_ofD E_Shop_check_mark
  have b_Shop_check_mark : Binds K d_Shop_check_mark P_Shop_check_mark [] := F_Shop_check_mark.binds fun _ _ _ _ _ _ us hl => match us, hl with | [_, _], _ => rfl
  obtain ⟨d_Shop_change, E_Shop_change⟩ := c.def_ 21 (d := D_Shop_change) rfl
  have F_Shop_change : Fun K _ _ s_Shop_change _ d_Shop_change := fun_ofD E_Shop_change
  have b_Shop_change : Binds K d_Shop_change P_Shop_change [] := F_Shop_change.binds fun _ _ _ _ _ _ us hl => match us, hl with | [_, _, _], _ => rfl
  obtain ⟨d_Shop_put, E_Shop_put⟩ := c.def_ 22 (d := D_Shop_put) rfl
  have F_Shop_put : Fun K _ _ s_Shop_put _ d_Shop_put := fun_ofD E_Shop_put
  have b_Shop_put : Binds K d_Shop_put P_Shop_put [] := F_Shop_put.binds fun _ _ _ _ _ _ us hl => match us, hl with | [_, _, _, _, _, _], _ => rfl
  obtain ⟨d_Shop_strike, E_Shop_strike⟩ := c.def_ 23 (d := D_Shop_strike) rfl
  have F_Shop_strike : Fun K _ _ s_Shop_strike _ d_Shop_strike := fun_ofD E_Shop_strike
  have b_Shop_strike : Binds K d_Shop_strike P_Shop_strike [] := F_Shop_strike.binds fun _ _ _ _ _ _ us hl => match us, hl with | [_, _, _], _ => rfl
  obtain ⟨d_Shop_add, E_Shop_add⟩ := c.def_ 24 (d := D_Shop_add) rfl
  have F_Shop_add : Fun K _ _ s_Shop_add _ d_Shop_add := fun_ofD E_Shop_add
  have b_Shop_add : Binds K d_Shop_add P_Shop_add [] := F_Shop_add.binds fun _ _ _ _ _ _ us hl => match us, hl with | [_], _ => rfl
  obtain ⟨d_Shop_shuts, E_Shop_shuts⟩ := c.def_ 25 (d := D_Shop_shuts) rfl
  have F_Shop_shuts : Fun K _ _ s_Shop_shuts _ d_Shop_shuts := fun_ofD E_Shop_shuts
  have b_Shop_shuts : Binds K d_Shop_shuts P_Shop_shuts [] := F_Shop_shuts.binds fun _ _ _ _ _ _ us hl => match us, hl with | [_, _, _], _ => rfl
  obtain ⟨d_Shop_shuts_not, E_Shop_shuts_not⟩ := c.def_ 26 (d := D_Shop_shuts_not) rfl
  have F_Shop_shuts_not : Fun K _ _ s_Shop_shuts_not _ d_Shop_shuts_not := fun_ofD E_Shop_shuts_not
  have b_Shop_shuts_not : Binds K d_Shop_shuts_not P_Shop_shuts_not [] := F_Shop_shuts_not.binds fun _ _ _ _ _ _ us hl => match us, hl with | [_, _, _], _ => rfl
  obtain ⟨d_Shop_office, E_Shop_office⟩ := c.def_ 27 (d := D_Shop_office) rfl
  have F_Shop_office : Fun K _ _ s_Shop_office _ d_Shop_office := fun_ofD E_Shop_office
  have b_Shop_office : Binds K d_Shop_office P_Shop_office [] := F_Shop_office.binds fun _ _ _ _ _ _ us hl => match us, hl with | [_], _ => rfl
  obtain ⟨d_Shop_back, E_Shop_back⟩ := c.def_ 28 (d := D_Shop_back) rfl
  have F_Shop_back : Fun K _ _ s_Shop_back _ d_Shop_back := fun_ofD E_Shop_back
  have b_Shop_back : Binds K d_Shop_back P_Shop_back [] := F_Shop_back.binds fun _ _ _ _ _ _ us hl => match us, hl with | [_], _ => rfl
  obtain ⟨d_Shop_depth, E_Shop_depth⟩ := c.def_ 29 (d := D_Shop_depth) rfl
  have F_Shop_depth : Fun K _ _ s_Shop_depth _ d_Shop_depth := fun_ofD E_Shop_depth
  have b_Shop_depth : Binds K d_Shop_depth P_Shop_depth [] := F_Shop_depth.binds fun _ _ _ _ _ _ us hl => match us, hl with | [_], _ => rfl
  obtain ⟨d_moves_by_slip, E_moves_by_slip⟩ := c.def_ 30 (d := D_moves_by_slip) rfl
  have F_moves_by_slip : Fun K _ _ s_moves_by_slip _ d_moves_by_slip := fun_ofD E_moves_by_slip
  have b_moves_by_slip : Binds K d_moves_by_slip P_moves_by_slip [] := F_moves_by_slip.binds fun _ _ _ _ _ _ us hl => match us, hl with | [_], _ => rfl
  obtain ⟨d_joint_moves, E_joint_moves⟩ := c.def_ 31 (d := D_joint_moves) rfl
  have F_joint_moves : Fun K _ _ s_joint_moves _ d_joint_moves := fun_ofD E_joint_moves
  have b_joint_moves : Binds K d_joint_moves P_joint_moves [] := F_joint_moves.binds fun _ _ _ _ _ _ us hl => match us, hl with | [_, _, _], _ => rfl
  obtain ⟨d_joint_lasts, E_joint_lasts⟩ := c.def_ 32 (d := D_joint_lasts) rfl
  have F_joint_lasts : Fun K _ _ s_joint_lasts _ d_joint_lasts := fun_ofD E_joint_lasts
  have b_joint_lasts : Binds K d_joint_lasts P_joint_lasts [] := F_joint_lasts.binds fun _ _ _ _ _ _ us hl => match us, hl with | [_, _, _], _ => rfl
  obtain ⟨d_chained, E_chained⟩ := c.def_ 33 (d := D_chained) rfl
  have F_chained : Fun K _ _ s_chained _ d_chained := fun_ofD E_chained
  have b_chained : Binds K d_chained P_chained [] := F_chained.binds fun _ _ _ _ _ _ us hl => match us, hl with | [_, _], _ => rfl
  obtain ⟨d_l_hand, E_l_hand⟩ := c.def_ 34 (d := D_l_hand) rfl
  have F_l_hand : Fun K _ _ s_l_hand _ d_l_hand := fun_ofD E_l_hand
  have b_l_hand : Binds K d_l_hand P_l_hand [] := F_l_hand.binds fun _ _ _ _ _ _ us hl => match us, hl with | [_], _ => rfl
  obtain ⟨d_l_draw, E_l_draw⟩ := c.def_ 35 (d := D_l_draw) rfl
  have F_l_draw : Fun K _ _ s_l_draw _ d_l_draw := fun_ofD E_l_draw
  have b_l_draw : Binds K d_l_draw P_l_draw [] := F_l_draw.binds fun _ _ _ _ _ _ us hl => match us, hl with | [_, _], _ => rfl
  obtain ⟨d_l_sizes, E_l_sizes⟩ := c.def_ 36 (d := D_l_sizes) rfl
  have F_l_sizes : Fun K _ _ s_l_sizes _ d_l_sizes := fun_ofD E_l_sizes
  have b_l_sizes : Binds K d_l_sizes P_l_sizes [] := F_l_sizes.binds fun _ _ _ _ _ _ us hl => match us, hl with | [_, _], _ => rfl
  obtain ⟨d_l_moves, E_l_moves⟩ := c.def_ 37 (d := D_l_moves) rfl
  have F_l_moves : Fun K _ _ s_l_moves _ d_l_moves := fun_ofD E_l_moves
  have b_l_moves : Binds K d_l_moves P_l_moves [] := F_l_moves.binds fun _ _ _ _ _ _ us hl => match us, hl with | [_, _, _], _ => rfl
  obtain ⟨d_l_closings, E_l_closings⟩ := c.def_ 38 (d := D_l_closings) rfl
  have F_l_closings : Fun K _ _ s_l_closings _ d_l_closings := fun_ofD E_l_closings
  have b_l_closings : Binds K d_l_closings P_l_closings [] := F_l_closings.binds fun _ _ _ _ _ _ us hl => match us, hl with | [_, _, _], _ => rfl
  obtain ⟨d_l_office, E_l_office⟩ := c.def_ 39 (d := D_l_office) rfl
  have F_l_office : Fun K _ _ s_l_office _ d_l_office := fun_ofD E_l_office
  have b_l_office : Binds K d_l_office P_l_office [] := F_l_office.binds fun _ _ _ _ _ _ us hl => match us, hl with | [_, _, _], _ => rfl
  obtain ⟨d_l_asked, E_l_asked⟩ := c.def_ 40 (d := D_l_asked) rfl
  have F_l_asked : Fun K _ _ s_l_asked _ d_l_asked := fun_ofD E_l_asked
  have b_l_asked : Binds K d_l_asked P_l_asked [] := F_l_asked.binds fun _ _ _ _ _ _ us hl => match us, hl with | [_, _, _], _ => rfl
  obtain ⟨d_l_part, E_l_part⟩ := c.def_ 41 (d := D_l_part) rfl
  have F_l_part : Fun K _ _ s_l_part _ d_l_part := fun_ofD E_l_part
  have b_l_part : Binds K d_l_part P_l_part [] := F_l_part.binds fun _ _ _ _ _ _ us hl => match us, hl with | [_, _, _], _ => rfl
  obtain ⟨d_l_run, E_l_run⟩ := c.def_ 42 (d := D_l_run) rfl
  have F_l_run : Fun K _ _ s_l_run _ d_l_run := fun_ofD E_l_run
  have b_l_run : Binds K d_l_run P_l_run [] := F_l_run.binds fun _ _ _ _ _ _ us hl => match us, hl with | [_, _, _], _ => rfl
  obtain ⟨d_l_odd, E_l_odd⟩ := c.def_ 43 (d := D_l_odd) rfl
  have F_l_odd : Fun K _ _ s_l_odd _ d_l_odd := fun_ofD E_l_odd
  have b_l_odd : Binds K d_l_odd P_l_odd [] := F_l_odd.binds fun _ _ _ _ _ _ us hl => match us, hl with | [_, _, _], _ => rfl
  obtain ⟨d_l_kept, E_l_kept⟩ := c.def_ 44 (d := D_l_kept) rfl
  have F_l_kept : Fun K _ _ s_l_kept _ d_l_kept := fun_ofD E_l_kept
  have b_l_kept : Binds K d_l_kept P_l_kept [] := F_l_kept.binds fun _ _ _ _ _ _ us hl => match us, hl with | [_, _], _ => rfl
  obtain ⟨d_l_bad, E_l_bad⟩ := c.def_ 45 (d := D_l_bad) rfl
  have F_l_bad : Fun K _ _ s_l_bad _ d_l_bad := fun_ofD E_l_bad
  have b_l_bad : Binds K d_l_bad P_l_bad [] := F_l_bad.binds fun _ _ _ _ _ _ us hl => match us, hl with | [_, _], _ => rfl
  obtain ⟨d_l_beyond, E_l_beyond⟩ := c.def_ 46 (d := D_l_beyond) rfl
  have F_l_beyond : Fun K _ _ s_l_beyond _ d_l_beyond := fun_ofD E_l_beyond
  have b_l_beyond : Binds K d_l_beyond P_l_beyond [] := F_l_beyond.binds fun _ _ _ _ _ _ us hl => match us, hl with | [_], _ => rfl
  obtain ⟨d_law, E_law⟩ := c.def_ 47 (d := D_law) rfl
  have F_law : Fun K _ _ s_law _ d_law := fun_ofD E_law
  have b_law : Binds K d_law P_law [] := F_law.binds fun _ _ _ _ _ _ us hl => match us, hl with | [_], _ => rfl
  obtain ⟨d_RawOffice_keep, E_RawOffice_keep⟩ := c.def_ 48 (d := D_RawOffice_keep) rfl
  have F_RawOffice_keep : Fun K _ _ s_Office_keep _ d_RawOffice_keep := fun_ofD E_RawOffice_keep
  have b_RawOffice_keep : Binds K d_RawOffice_keep P_Office_keep [] := F_RawOffice_keep.binds fun _ _ _ _ _ _ us hl => match us, hl with | [_, _, _, _], _ => rfl
  obtain ⟨d_RawOffice___eq__, E_RawOffice___eq__⟩ := c.def_ 49 (d := D_RawOffice___eq__) rfl
  have F_RawOffice___eq__ : Fun K _ _ s_Office_eq _ d_RawOffice___eq__ := fun_ofD E_RawOffice___eq__
  have b_RawOffice___eq__ : Binds K d_RawOffice___eq__ P_Office_eq [] := F_RawOffice___eq__.binds fun _ _ _ _ _ _ us hl => match us, hl with | [_, _], _ => rfl
  obtain ⟨t_MOST_SIZE, g_MOST_SIZE⟩ := He.int_ok X G (c.fact 44 (f := .int "MOST_SIZE" (4)) rfl)
  obtain ⟨t_MOST_STANDINGS, g_MOST_STANDINGS⟩ := He.int_ok X G (c.fact 45 (f := .int "MOST_STANDINGS" (20)) rfl)
  exact ⟨{
    a_is_integer := _, d_is_integer := d_is_integer, F_is_integer := F_is_integer, b_is_integer := b_is_integer,
    a_is_within := _, d_is_within := d_is_within, F_is_within := F_is_within, b_is_within := b_is_within,
    a_is_pair := _, d_is_pair := d_is_pair, F_is_pair := F_is_pair, b_is_pair := b_is_pair,
    a_is_triple := _, d_is_triple := d_is_triple, F_is_triple := F_is_triple, b_is_triple := b_is_triple,
    a_are_ascending := _, d_are_ascending := d_are_ascending, F_are_ascending := F_are_ascending, b_are_ascending := b_are_ascending,
    a_are_sizes := _, d_are_sizes := d_are_sizes, F_are_sizes := F_are_sizes, b_are_sizes := b_are_sizes,
    a_is_move := _, d_is_move := d_is_move, F_is_move := F_is_move, b_is_move := b_is_move,
    a_are_moves := _, d_are_moves := d_are_moves, F_are_moves := F_are_moves, b_are_moves := b_are_moves,
    a_are_closings := _, d_are_closings := d_are_closings, F_are_closings := F_are_closings, b_are_closings := b_are_closings,
    a_Office_init := _, d_Office_init := d_Office_init, F_Office_init := F_Office_init, b_Office_init := b_Office_init,
    a_Office_keep := _, d_Office_keep := d_Office_keep, F_Office_keep := F_Office_keep, b_Office_keep := b_Office_keep,
    a_Office_eq := _, d_Office_eq := d_Office_eq, F_Office_eq := F_Office_eq, b_Office_eq := b_Office_eq,
    a_RawOffice_init := _, d_RawOffice_init := d_RawOffice_init, F_RawOffice_init := F_RawOffice_init, b_RawOffice_init := b_RawOffice_init,
    a_is_mark := _, d_is_mark := d_is_mark, F_is_mark := F_is_mark, b_is_mark := b_is_mark,
    a_is_note := _, d_is_note := d_is_note, F_is_note := F_is_note, b_is_note := b_is_note,
    a_is_step := _, d_is_step := d_is_step, F_is_step := F_is_step, b_is_step := b_is_step,
    a_with_item := _, d_with_item := d_with_item, F_with_item := F_with_item, b_with_item := b_with_item,
    a_exchanged := _, d_exchanged := d_exchanged, F_exchanged := F_exchanged, b_exchanged := b_exchanged,
    a_Shop_init := _, d_Shop_init := d_Shop_init, F_Shop_init := F_Shop_init, b_Shop_init := b_Shop_init,
    a_Shop_check_standing := _, d_Shop_check_standing := d_Shop_check_standing, F_Shop_check_standing := F_Shop_check_standing, b_Shop_check_standing := b_Shop_check_standing,
    a_Shop_check_mark := _, d_Shop_check_mark := d_Shop_check_mark, F_Shop_check_mark := F_Shop_check_mark, b_Shop_check_mark := b_Shop_check_mark,
    a_Shop_change := _, d_Shop_change := d_Shop_change, F_Shop_change := F_Shop_change, b_Shop_change := b_Shop_change,
    a_Shop_put := _, d_Shop_put := d_Shop_put, F_Shop_put := F_Shop_put, b_Shop_put := b_Shop_put,
    a_Shop_strike := _, d_Shop_strike := d_Shop_strike, F_Shop_strike := F_Shop_strike, b_Shop_strike := b_Shop_strike,
    a_Shop_add := _, d_Shop_add := d_Shop_add, F_Shop_add := F_Shop_add, b_Shop_add := b_Shop_add,
    a_Shop_shuts := _, d_Shop_shuts := d_Shop_shuts, F_Shop_shuts := F_Shop_shuts, b_Shop_shuts := b_Shop_shuts,
    a_Shop_shuts_not := _, d_Shop_shuts_not := d_Shop_shuts_not, F_Shop_shuts_not := F_Shop_shuts_not, b_Shop_shuts_not := b_Shop_shuts_not,
    a_Shop_office := _, d_Shop_office := d_Shop_office, F_Shop_office := F_Shop_office, b_Shop_office := b_Shop_office,
    a_Shop_back := _, d_Shop_back := d_Shop_back, F_Shop_back := F_Shop_back, b_Shop_back := b_Shop_back,
    a_Shop_depth := _, d_Shop_depth := d_Shop_depth, F_Shop_depth := F_Shop_depth, b_Shop_depth := b_Shop_depth,
    a_moves_by_slip := _, d_moves_by_slip := d_moves_by_slip, F_moves_by_slip := F_moves_by_slip, b_moves_by_slip := b_moves_by_slip,
    a_joint_moves := _, d_joint_moves := d_joint_moves, F_joint_moves := F_joint_moves, b_joint_moves := b_joint_moves,
    a_joint_lasts := _, d_joint_lasts := d_joint_lasts, F_joint_lasts := F_joint_lasts, b_joint_lasts := b_joint_lasts,
    a_chained := _, d_chained := d_chained, F_chained := F_chained, b_chained := b_chained,
    a_l_hand := _, d_l_hand := d_l_hand, F_l_hand := F_l_hand, b_l_hand := b_l_hand,
    a_l_draw := _, d_l_draw := d_l_draw, F_l_draw := F_l_draw, b_l_draw := b_l_draw,
    a_l_sizes := _, d_l_sizes := d_l_sizes, F_l_sizes := F_l_sizes, b_l_sizes := b_l_sizes,
    a_l_moves := _, d_l_moves := d_l_moves, F_l_moves := F_l_moves, b_l_moves := b_l_moves,
    a_l_closings := _, d_l_closings := d_l_closings, F_l_closings := F_l_closings, b_l_closings := b_l_closings,
    a_l_office := _, d_l_office := d_l_office, F_l_office := F_l_office, b_l_office := b_l_office,
    a_l_asked := _, d_l_asked := d_l_asked, F_l_asked := F_l_asked, b_l_asked := b_l_asked,
    a_l_part := _, d_l_part := d_l_part, F_l_part := F_l_part, b_l_part := b_l_part,
    a_l_run := _, d_l_run := d_l_run, F_l_run := F_l_run, b_l_run := b_l_run,
    a_l_odd := _, d_l_odd := d_l_odd, F_l_odd := F_l_odd, b_l_odd := b_l_odd,
    a_l_kept := _, d_l_kept := d_l_kept, F_l_kept := F_l_kept, b_l_kept := b_l_kept,
    a_l_bad := _, d_l_bad := d_l_bad, F_l_bad := F_l_bad, b_l_bad := b_l_bad,
    a_l_beyond := _, d_l_beyond := d_l_beyond, F_l_beyond := F_l_beyond, b_l_beyond := b_l_beyond,
    a_law := _, d_law := d_law, F_law := F_law, b_law := b_law,
    a_RawOffice_keep := _, d_RawOffice_keep := d_RawOffice_keep, F_RawOffice_keep := F_RawOffice_keep, b_RawOffice_keep := b_RawOffice_keep,
    a_RawOffice___eq__ := _, d_RawOffice___eq__ := d_RawOffice___eq__, F_RawOffice___eq__ := F_RawOffice___eq__, b_RawOffice___eq__ := b_RawOffice___eq__,
    t_MOST_SIZE := t_MOST_SIZE, g_MOST_SIZE := g_MOST_SIZE,
    t_MOST_STANDINGS := t_MOST_STANDINGS, g_MOST_STANDINGS := g_MOST_STANDINGS,
    a_Office := _,
    a_RawOffice := _,
    a_Shop := _,
    g_is_integer := He.glo_ok X G (c.fact 0 (f := .glo "is_integer") rfl),
    k_is_integer := F_is_integer.kp,
    g_is_within := He.glo_ok X G (c.fact 1 (f := .glo "is_within") rfl),
    k_is_within := F_is_within.kp,
    g_is_pair := He.glo_ok X G (c.fact 2 (f := .glo "is_pair") rfl),
    k_is_pair := F_is_pair.kp,
    g_is_triple := He.glo_ok X G (c.fact 3 (f := .glo "is_triple") rfl),
    k_is_triple := F_is_triple.kp,
    g_are_ascending := He.glo_ok X G (c.fact 4 (f := .glo "are_ascending") rfl),
    k_are_ascending := F_are_ascending.kp,
    g_are_sizes := He.glo_ok X G (c.fact 5 (f := .glo "are_sizes") rfl),
    k_are_sizes := F_are_sizes.kp,
    g_is_move := He.glo_ok X G (c.fact 6 (f := .glo "is_move") rfl),
    k_is_move := F_is_move.kp,
    g_are_moves := He.glo_ok X G (c.fact 7 (f := .glo "are_moves") rfl),
    k_are_moves := F_are_moves.kp,
    g_are_closings := He.glo_ok X G (c.fact 8 (f := .glo "are_closings") rfl),
    k_are_closings := F_are_closings.kp,
    g_is_mark := He.glo_ok X G (c.fact 9 (f := .glo "is_mark") rfl),
    k_is_mark := F_is_mark.kp,
    g_is_note := He.glo_ok X G (c.fact 10 (f := .glo "is_note") rfl),
    k_is_note := F_is_note.kp,
    g_is_step := He.glo_ok X G (c.fact 11 (f := .glo "is_step") rfl),
    k_is_step := F_is_step.kp,
    g_with_item := He.glo_ok X G (c.fact 12 (f := .glo "with_item") rfl),
    k_with_item := F_with_item.kp,
    g_exchanged := He.glo_ok X G (c.fact 13 (f := .glo "exchanged") rfl),
    k_exchanged := F_exchanged.kp,
    g_moves_by_slip := He.glo_ok X G (c.fact 14 (f := .glo "moves_by_slip") rfl),
    k_moves_by_slip := F_moves_by_slip.kp,
    g_joint_moves := He.glo_ok X G (c.fact 15 (f := .glo "joint_moves") rfl),
    k_joint_moves := F_joint_moves.kp,
    g_joint_lasts := He.glo_ok X G (c.fact 16 (f := .glo "joint_lasts") rfl),
    k_joint_lasts := F_joint_lasts.kp,
    g_chained := He.glo_ok X G (c.fact 17 (f := .glo "chained") rfl),
    k_chained := F_chained.kp,
    g_l_hand := He.glo_ok X G (c.fact 18 (f := .glo "_law_hand") rfl),
    k_l_hand := F_l_hand.kp,
    g_l_draw := He.glo_ok X G (c.fact 19 (f := .glo "_law_draw") rfl),
    k_l_draw := F_l_draw.kp,
    g_l_sizes := He.glo_ok X G (c.fact 20 (f := .glo "_law_sizes") rfl),
    k_l_sizes := F_l_sizes.kp,
    g_l_moves := He.glo_ok X G (c.fact 21 (f := .glo "_law_moves") rfl),
    k_l_moves := F_l_moves.kp,
    g_l_closings := He.glo_ok X G (c.fact 22 (f := .glo "_law_closings") rfl),
    k_l_closings := F_l_closings.kp,
    g_l_office := He.glo_ok X G (c.fact 23 (f := .glo "_law_office") rfl),
    k_l_office := F_l_office.kp,
    g_l_asked := He.glo_ok X G (c.fact 24 (f := .glo "_law_asked") rfl),
    k_l_asked := F_l_asked.kp,
    g_l_part := He.glo_ok X G (c.fact 25 (f := .glo "_law_part") rfl),
    k_l_part := F_l_part.kp,
    g_l_run := He.glo_ok X G (c.fact 26 (f := .glo "_law_run") rfl),
    k_l_run := F_l_run.kp,
    g_l_odd := He.glo_ok X G (c.fact 27 (f := .glo "_law_odd") rfl),
    k_l_odd := F_l_odd.kp,
    g_l_kept := He.glo_ok X G (c.fact 28 (f := .glo "_law_kept") rfl),
    k_l_kept := F_l_kept.kp,
    g_l_bad := He.glo_ok X G (c.fact 29 (f := .glo "_law_bad") rfl),
    k_l_bad := F_l_bad.kp,
    g_l_beyond := He.glo_ok X G (c.fact 30 (f := .glo "_law_beyond") rfl),
    k_l_beyond := F_l_beyond.kp,
    g_law := He.glo_ok X G (c.fact 31 (f := .glo "law") rfl),
    k_law := F_law.kp,
    n_abs := He.free_ok X G (c.fact 32 (f := .free "abs") rfl),
    n_all := He.free_ok X G (c.fact 33 (f := .free "all") rfl),
    n_bool := He.free_ok X G (c.fact 34 (f := .free "bool") rfl),
    n_int := He.free_ok X G (c.fact 35 (f := .free "int") rfl),
    n_isinstance := He.free_ok X G (c.fact 36 (f := .free "isinstance") rfl),
    n_len := He.free_ok X G (c.fact 37 (f := .free "len") rfl),
    n_list := He.free_ok X G (c.fact 38 (f := .free "list") rfl),
    n_range := He.free_ok X G (c.fact 39 (f := .free "range") rfl),
    n_repr := He.free_ok X G (c.fact 40 (f := .free "repr") rfl),
    n_sorted := He.free_ok X G (c.fact 41 (f := .free "sorted") rfl),
    n_tuple := He.free_ok X G (c.fact 42 (f := .free "tuple") rfl),
    n_zip := He.free_ok X G (c.fact 43 (f := .free "zip") rfl),
    g_Office := He.glo_ok X G (c.fact 46 (f := .glo "Office") rfl),
    c_Office := He.cls_ok (c.fact 47 (f := .cls "Office") rfl),
    m_Office := He.mkr_ok (c.fact 48 (f := .mkr "Office") rfl),
    f_Office_sizes := He.noat_ok (c.fact 49 (f := .noat "Office" "sizes") rfl),
    f_Office_moves := He.noat_ok (c.fact 50 (f := .noat "Office" "moves") rfl),
    f_Office_closings := He.noat_ok (c.fact 51 (f := .noat "Office" "closings") rfl),
    f_Office_kept_goals := He.noat_ok (c.fact 52 (f := .noat "Office" "kept_goals") rfl),
    t_Office_keep := He.meth_ok (c.fact 53 (f := .meth "Office" "keep") rfl),
    t_Office___eq__ := He.meth_ok (c.fact 54 (f := .meth "Office" "__eq__") rfl),
    g_RawOffice := He.glo_ok X G (c.fact 55 (f := .glo "RawOffice") rfl),
    c_RawOffice := He.cls_ok (c.fact 56 (f := .cls "RawOffice") rfl),
    m_RawOffice := He.mkr_ok (c.fact 57 (f := .mkr "RawOffice") rfl),
    f_RawOffice_sizes := He.noat_ok (c.fact 58 (f := .noat "RawOffice" "sizes") rfl),
    f_RawOffice_moves := He.noat_ok (c.fact 59 (f := .noat "RawOffice" "moves") rfl),
    f_RawOffice_closings := He.noat_ok (c.fact 60 (f := .noat "RawOffice" "closings") rfl),
    f_RawOffice_kept_goals := He.noat_ok (c.fact 61 (f := .noat "RawOffice" "kept_goals") rfl),
    t_RawOffice_keep := He.meth_ok (c.fact 62 (f := .meth "RawOffice" "keep") rfl),
    t_RawOffice___eq__ := He.meth_ok (c.fact 63 (f := .meth "RawOffice" "__eq__") rfl),
    g_Shop := He.glo_ok X G (c.fact 64 (f := .glo "Shop") rfl),
    c_Shop := He.cls_ok (c.fact 65 (f := .cls "Shop") rfl),
    m_Shop := He.mkr_ok (c.fact 66 (f := .mkr "Shop") rfl),
    f_Shop_kept_now := He.noat_ok (c.fact 67 (f := .noat "Shop" "kept_now") rfl),
    f_Shop_kept_past := He.noat_ok (c.fact 68 (f := .noat "Shop" "kept_past") rfl),
    t_Shop_check_standing := He.meth_ok (c.fact 69 (f := .meth "Shop" "check_standing") rfl),
    t_Shop_check_mark := He.meth_ok (c.fact 70 (f := .meth "Shop" "check_mark") rfl),
    t_Shop_change := He.meth_ok (c.fact 71 (f := .meth "Shop" "change") rfl),
    t_Shop_put := He.meth_ok (c.fact 72 (f := .meth "Shop" "put") rfl),
    t_Shop_strike := He.meth_ok (c.fact 73 (f := .meth "Shop" "strike") rfl),
    t_Shop_add := He.meth_ok (c.fact 74 (f := .meth "Shop" "add") rfl),
    t_Shop_shuts := He.meth_ok (c.fact 75 (f := .meth "Shop" "shuts") rfl),
    t_Shop_shuts_not := He.meth_ok (c.fact 76 (f := .meth "Shop" "shuts_not") rfl),
    t_Shop_office := He.meth_ok (c.fact 77 (f := .meth "Shop" "office") rfl),
    t_Shop_back := He.meth_ok (c.fact 78 (f := .meth "Shop" "back") rfl),
    t_Shop_depth := He.meth_ok (c.fact 79 (f := .meth "Shop" "depth") rfl)
  }, trivial⟩
theorem err_of {K : PySem.W.Frag} {h : Heap} {mg : Str → Option Value} (X : K.In h) (G : h.Ns mainGlobals mg) (c : SaysX faL fnL sdL xsL K) : ∃ Er : Err PySem.Challenge.pw_falsedays_k90_shop_refused K mg, ErrQ Er := by
  obtain ⟨cc_BadOffice, ca_BadOffice, su_BadOffice, fd_BadOffice, doc_BadOffice, pm_BadOffice, ctv_BadOffice, efd_BadOffice, oc_BadOffice, od_BadOffice, osl_BadOffice, lk_BadOffice⟩ := supI_of (P := PySem.Challenge.pw_falsedays_k90_shop_refused) (by decide +kernel) (c.sup 0 (d := D_BadOffice) rfl).2 (c.sup 0 (d := D_BadOffice) rfl).1
  refine ⟨{
    a_FalseError := He.ga K "FalseError",
    a_NoStep := He.ga K "NoStep",
    a_NoMark := He.ga K "NoMark",
    a_NothingDone := He.ga K "NothingDone",
    a_NoStanding := He.ga K "NoStanding",
    a_NoMove := He.ga K "NoMove",
    a_BadOffice := He.ga K "BadOffice",
    a_Office := He.ga K "Office",
    a_RawOffice := He.ga K "RawOffice",
    f_BadOffice := iAd K "BadOffice",
    cc_BadOffice := cc_BadOffice,
    ca_BadOffice := ca_BadOffice,
    d_BadOffice_init := fd_BadOffice,
    g_FalseError := He.glo_ok X G (c.d.fact 80 (f := .glo "FalseError") rfl),
    g_NoStep := He.glo_ok X G (c.d.fact 81 (f := .glo "NoStep") rfl),
    g_NoMark := He.glo_ok X G (c.d.fact 82 (f := .glo "NoMark") rfl),
    g_NothingDone := He.glo_ok X G (c.d.fact 83 (f := .glo "NothingDone") rfl),
    g_NoStanding := He.glo_ok X G (c.d.fact 84 (f := .glo "NoStanding") rfl),
    g_NoMove := He.glo_ok X G (c.d.fact 85 (f := .glo "NoMove") rfl),
    g_BadOffice := He.glo_ok X G (c.d.fact 86 (f := .glo "BadOffice") rfl),
    g_Office := He.glo_ok X G (c.d.fact 87 (f := .glo "Office") rfl),
    g_RawOffice := He.glo_ok X G (c.d.fact 88 (f := .glo "RawOffice") rfl),
    n_super := He.free_ok X G (c.d.fact 89 (f := .free "super") rfl),
    x_NoStep := (c.fact 0 rfl),
    k_NoStep := (c.fact 1 rfl),
    s_NoStep := (of_decide_eq_true (c.fact 2 rfl)),
    t_NoStep := (of_decide_eq_true (c.fact 3 rfl)),
    x_NoMark := (c.fact 4 rfl),
    k_NoMark := (c.fact 5 rfl),
    s_NoMark := (of_decide_eq_true (c.fact 6 rfl)),
    t_NoMark := (of_decide_eq_true (c.fact 7 rfl)),
    x_NothingDone := (c.fact 8 rfl),
    k_NothingDone := (c.fact 9 rfl),
    s_NothingDone := (of_decide_eq_true (c.fact 10 rfl)),
    t_NothingDone := (of_decide_eq_true (c.fact 11 rfl)),
    x_NoStanding := (c.fact 12 rfl),
    k_NoStanding := (c.fact 13 rfl),
    s_NoStanding := (of_decide_eq_true (c.fact 14 rfl)),
    t_NoStanding := (of_decide_eq_true (c.fact 15 rfl)),
    x_NoMove := (c.fact 16 rfl),
    k_NoMove := (c.fact 17 rfl),
    s_NoMove := (of_decide_eq_true (c.fact 18 rfl)),
    t_NoMove := (of_decide_eq_true (c.fact 19 rfl)),
    u_BadOffice := su_BadOffice,
    fd_BadOffice := ⟨doc_BadOffice, pm_BadOffice, ctv_BadOffice, efd_BadOffice, oc_BadOffice, od_BadOffice, osl_BadOffice, lk_BadOffice⟩,
    i_BadOffice := (of_decide_eq_true (c.fact 20 rfl)),
    t_BadOffice := (of_decide_eq_true (c.fact 21 rfl)),
    no_BadOffice := (of_decide_eq_true (c.fact 22 rfl)),
    b_BadOffice_init := by rw [efd_BadOffice]; exact .all fun us hl => match us, hl with | [_, _], _ => rfl }, ?_⟩
  exact {
    c_NoStep := (excCB_ok (c.fact 24 rfl)),
    m_NoStep := (of_decide_eq_true (c.fact 25 rfl)),
    c_NoMark := (excCB_ok (c.fact 26 rfl)),
    m_NoMark := (of_decide_eq_true (c.fact 27 rfl)),
    c_NothingDone := (excCB_ok (c.fact 28 rfl)),
    m_NothingDone := (of_decide_eq_true (c.fact 29 rfl)),
    c_NoStanding := (excCB_ok (c.fact 30 rfl)),
    m_NoStanding := (of_decide_eq_true (c.fact 31 rfl)),
    c_NoMove := (excCB_ok (c.fact 32 rfl)),
    m_NoMove := (of_decide_eq_true (c.fact 33 rfl)),
    c_BadOffice := (excCB_ok (c.fact 34 rfl)),
    m_BadOffice := (of_decide_eq_true (c.fact 35 rfl)),
    is_ := (fun i j => of_decide_eq_true (List.all_eq_true.mp (List.all_eq_true.mp (c.fact 36 rfl) i (List.mem_finRange i)) j (List.mem_finRange j))),
    o1 := (of_decide_eq_true (c.fact 37 rfl)),
    o2 := (of_decide_eq_true (c.fact 38 rfl)),
    o3 := (of_decide_eq_true (c.fact 39 rfl)),
    o4 := (of_decide_eq_true (c.fact 40 rfl)),
    o5 := (of_decide_eq_true (c.fact 41 rfl)),
    o6 := (of_decide_eq_true (c.fact 42 rfl)),
    o7 := (of_decide_eq_true (c.fact 43 rfl)),
    r1 := (of_decide_eq_true (c.fact 44 rfl)),
    r4 := (of_decide_eq_true (c.fact 45 rfl)),
    r7 := (of_decide_eq_true (c.fact 46 rfl)),
    xf := (xfB_ok (c.fact 23 rfl)) }
end Fd
set_option Elab.async false
set_option linter.all false
set_option maxRecDepth 100000
set_option maxHeartbeats 4000000
namespace Fd
open PySem PySem.Spec PyProof.Rows L2
/-! ### for, over items told by data -/
theorem fo_T {K : PySem.W.Frag} {α : Type} {R : V → α → Prop} {a : Addr} {vs : List V} {xs : List α} {g : TG} {tb : TS} {D : Ends} {σ : L2.St} {H : Hp} (Pv : List α → L2.St → Hp → Prop) (hp : Paired R vs xs) (h0 : Pv [] σ H)
    (hk : ∀ d σ H', Pv d σ H' → H' a = some (.tup vs)) (hs : ∀ d x r v σ H', xs = d ++ x :: r → R v x → Pv d σ H' → g v σ H' fun σ2 H2 => tb { D with nx := Pv (d ++ [x]), ct := Pv (d ++ [x]), bk := D.nx } σ2 H2)
    (hd : ∀ σ H', Pv xs σ H' → D.nx σ H') :
    ∃ W : Nat → Nat → L2.St → Hp → Prop, (∃ m, W 0 m σ H) ∧ ∀ i m σ H, W i m σ H →
      ((Itt K a).stop i H ∧ D.nx σ H) ∨ ((Itt K a).go i H ∧ ∃ N : L2.St → Hp → Prop, (∀ σ' H', N σ' H' → ∃ m', m' < m ∧ W (i + 1) m' σ' H') ∧ ∀ x H', (Itt K a).yld i H x H' → g x σ H' fun σ2 H2 => tb { D with nx := N, ct := N, bk := D.nx } σ2 H2) := by
  refine for_tup (xs := vs) (fun i σ H' => Pv (xs.take i) σ H') h0 (fun i σ H' _ p => SqT.of (hk _ _ _ p)) (fun i x σ H' e p => ?_) fun σ H' p => hd σ H' (by rw [plen hp, List.take_length] at p; exact p)
  obtain ⟨y, e2, r⟩ := pgetL hp e
  have hlt : i < xs.length := (List.getElem?_eq_some_iff.mp e2).1
  have e3 : xs[i] = y := (List.getElem?_eq_some_iff.mp e2).2
  have e4 : xs.take (i + 1) = xs.take i ++ [y] := by rw [List.take_succ, e2]; rfl
  have := hs (xs.take i) y (xs.drop (i + 1)) x σ H' (by rw [← e3, List.getElem_cons_drop, List.take_append_drop]) r p
  rw [e4]
  exact this
theorem fo_L {K : PySem.W.Frag} {α : Type} {R : V → α → Prop} {a : Addr} {vs : List V} {xs : List α} {g : TG} {tb : TS} {D : Ends} {σ : L2.St} {H : Hp} (Pv : List α → L2.St → Hp → Prop) (hp : Paired R vs xs) (h0 : Pv [] σ H)
    (hk : ∀ d σ H', Pv d σ H' → H' a = some (.lst vs)) (hs : ∀ d x r v σ H', xs = d ++ x :: r → R v x → Pv d σ H' → g v σ H' fun σ2 H2 => tb { D with nx := Pv (d ++ [x]), ct := Pv (d ++ [x]), bk := D.nx } σ2 H2)
    (hd : ∀ σ H', Pv xs σ H' → D.nx σ H') :
    ∃ W : Nat → Nat → L2.St → Hp → Prop, (∃ m, W 0 m σ H) ∧ ∀ i m σ H, W i m σ H →
      ((Itl K a).stop i H ∧ D.nx σ H) ∨ ((Itl K a).go i H ∧ ∃ N : L2.St → Hp → Prop, (∀ σ' H', N σ' H' → ∃ m', m' < m ∧ W (i + 1) m' σ' H') ∧ ∀ x H', (Itl K a).yld i H x H' → g x σ H' fun σ2 H2 => tb { D with nx := N, ct := N, bk := D.nx } σ2 H2) := by
  refine for_list (xs := vs) (fun i σ H' => Pv (xs.take i) σ H') h0 (fun i σ H' _ p => SqL.of (hk _ _ _ p)) (fun i x σ H' e p => ?_) fun σ H' p => hd σ H' (by rw [plen hp, List.take_length] at p; exact p)
  obtain ⟨y, e2, r⟩ := pgetL hp e
  have hlt : i < xs.length := (List.getElem?_eq_some_iff.mp e2).1
  have e3 : xs[i] = y := (List.getElem?_eq_some_iff.mp e2).2
  have e4 : xs.take (i + 1) = xs.take i ++ [y] := by rw [List.take_succ, e2]; rfl
  have := hs (xs.take i) y (xs.drop (i + 1)) x σ H' (by rw [← e3, List.getElem_cons_drop, List.take_append_drop]) r p
  rw [e4]
  exact this
/-- a comprehension without a test, over the items of a tuple told by data -/
theorem lc_T {K : PySem.W.Frag} {α β : Type} {R : V → α → Prop} {R' : Rl β} (sR' : Stb R') {f : α → β} {a : Addr} {vs : List V} {xs : List α} {g : TG} {te : TE} {ix : List Nat} {σ : L2.St} {H1 : Hp} {D : Addr} {Qd : Hp → Prop}
    (hn : H1 D = none) (hl : vs.length ≤ sizeLine) (hp : Paired R vs xs) (ha : H1 a = some (.tup vs))
    (hs : ∀ v x H, x ∈ xs → R v x → Ke H1 H → ∀ Q : V → Hp → Prop, (∀ w H', Ke H H' → R' H' w (f x) → Q w H') → g v (wipe σ ix) H fun σ2 H2 => wipe σ2 ix = wipe σ ix ∧ te σ2 H2 Q)
    (hd : ∀ H ws, Ke H1 H → H D = some (.lst ws) → Paired (R' H) ws (xs.map f) → Qd H) :
    ∃ W : Nat → Nat → Hp → Prop, (∃ m, W 0 m (upd H1 D (.lst []))) ∧ ∀ i m H, W i m H →
      ((Itt K a).stop i H ∧ Qd H) ∨ ((Itt K a).go i H ∧ ∃ Nx : Hp → Prop, (∀ H', Nx H' → ∃ m', m' < m ∧ W (i + 1) m' H') ∧ ∀ x H', (Itt K a).yld i H x H' → g x (wipe σ ix) H' fun σ2 H2 => wipe σ2 ix = wipe σ ix ∧ tYes σ2 H2 fun b H3 =>
        if b = true then te σ2 H3 fun y H4 => ∃ acc, H4 D = some (.lst acc) ∧ acc.length < sizeLine ∧ Nx (upd H4 D (.lst (acc ++ [y]))) else Nx H3) := by
  have el := plen hp
  refine lc_tup (xs := vs) (fun i H => Ke H1 H ∧ ∃ ws, H D = some (.lst ws) ∧ Paired (R' H) ws ((xs.take i).map f)) ⟨Ke.new hn, [], upd_same, .nil⟩ (fun i H _ p => SqT.of (p.1.at ha)) (fun i v H e p => ?_) fun H p => ?_
  · obtain ⟨k, ws, hD, pw⟩ := p
    obtain ⟨x, e2, r⟩ := pgetL hp e
    have hlt : i < vs.length := (List.getElem?_eq_some_iff.mp e).1
    have hx : x ∈ xs := List.mem_of_getElem? e2
    have e4 : (xs.take (i + 1)).map f = (xs.take i).map f ++ [f x] := by rw [List.take_succ, e2]; simp
    have lw : ws.length = i := by have := plen pw; rw [this]; simp; omega
    refine hs v x H hx r k _ fun w H' k' r' => ?_
    refine ⟨ws, k'.at hD, by omega, ?_⟩
    have kk : ∀ H2, H2 = upd H' D (.lst (ws ++ [w])) → Ke H1 H2 := fun H2 e => by
      rw [e]; exact Ks.mutNew (k.trans k') hn
    refine ⟨kk _ rfl, ws ++ [w], upd_same, ?_⟩
    rw [e4]
    have tx1 : Tx H (upd H' D (.lst (ws ++ [w]))) := ⟨fun b ys e => by rw [upd_ne (fun z => by subst z; rw [hD] at e; cases e)]; exact k'.tup b ys e⟩
    have tx2 : Tx H' (upd H' D (.lst (ws ++ [w]))) := ⟨fun b ys e => by rw [upd_ne (fun z => by subst z; rw [k'.at hD] at e; cases e)]; exact e⟩
    exact papp (pimp (fun v x r => sR' _ _ v x tx1 r) pw) (.cons (sR' _ _ _ _ tx2 r') .nil)
  · rw [el, List.take_length] at p
    obtain ⟨k, ws, hD, pw⟩ := p
    exact hd H ws k hD pw

theorem bT {p : Prop} [Decidable p] (h : p) : V.bl (decide p) = V.bl true := by rw [decide_eq_true h]
theorem bF {p : Prop} [Decidable p] (h : ¬ p) : V.bl (decide p) = V.bl false := by rw [decide_eq_false h]
theorem qT {p : Prop} [Decidable p] {Q : VK} {H : Hp} (h : p) (k : Q (.bl true) H) : Q (.bl (decide p)) H := by rw [decide_eq_true h]; exact k
theorem qF {p : Prop} [Decidable p] {Q : VK} {H : Hp} (h : ¬ p) (k : Q (.bl false) H) : Q (.bl (decide p)) H := by rw [decide_eq_false h]; exact k
theorem ifT {p A B : Prop} [Decidable p] (h : p) (k : A) : if decide p = true then A else B := by rw [decide_eq_true h]; exact iteT k
theorem ifF {p A B : Prop} [Decidable p] (h : ¬ p) (k : B) : if decide p = true then A else B := by rw [decide_eq_false h]; exact iteF k
theorem ifNT {p A B : Prop} [Decidable p] (h : p) (k : B) : if (!decide p) = true then A else B := by rw [decide_eq_true h]; exact iteF k
theorem ifNF {p A B : Prop} [Decidable p] (h : ¬ p) (k : A) : if (!decide p) = true then A else B := by rw [decide_eq_false h]; exact iteT k
theorem atI_nat {α : Type} {xs : List α} {i : Nat} {x : α} (h : xs[i]? = some x) {j : Int} (e : j = i) : atI xs j = some x := by
  subst e
  have hl : i < xs.length := (List.getElem?_eq_some_iff.mp h).1
  unfold atI ixN
  rw [if_pos (by omega), if_pos (by omega)]
  simpa using h
theorem paired_bl {H : Hp} : ∀ {vs : List V} {ns : List Bool}, Paired (BB H) vs ns → vs = ns.map V.bl
  | _, _, .nil => rfl
  | _, _, .cons h t => by
    have h' : _ = V.bl _ := h
    rw [h', paired_bl t]; rfl
/-! ### checks, whatever they are asked -/
/-- whether a thing is an integer -/
def IsI (K : PySem.W.Frag) (H : Hp) (v : V) (b : Bool) : Prop := ∃ t b1 b2, TyX K H v t ∧ PySem.W.kitOne K t (.type "int") = some b1 ∧ PySem.W.kitOne K t (.type "bool") = some b2 ∧ b = (b1 && !b2)
theorem isI_int {K : PySem.W.Frag} {H : Hp} (n : Int) : IsI K H (.int n) true := ⟨.type "int", true, false, .base (.int _), by rfl, by rfl, rfl⟩
def sp_is_integer (K : PySem.W.Frag) : Sp := fun vs H Q _ => ∃ v b, vs = [v] ∧ IsI K H v b ∧ Q (.bl b) H
/-- whether a thing lies within -/
def IsW (K : PySem.W.Frag) (H : Hp) (v : V) (a b : Int) (r : Bool) : Prop := (∃ n, v = .int n ∧ r = decide (a ≤ n ∧ n ≤ b)) ∨ (IsI K H v false ∧ r = false)
theorem isW_int {K : PySem.W.Frag} {H : Hp} {n a b : Int} (h : a ≤ n ∧ n ≤ b) : IsW K H (.int n) a b true := .inl ⟨n, rfl, by rw [decide_eq_true h]⟩
def sp_is_within (K : PySem.W.Frag) : Sp := fun vs H Q _ => ∃ v a b r, vs = [v, .int a, .int b] ∧ IsW K H v a b r ∧ Q (.bl r) H
def sp_is_pair : Sp := fun vs H Q _ => ∃ a xs, vs = [.ref a] ∧ H a = some (.tup xs) ∧ xs.length = 2 ∧ Q (.bl true) H
def sp_is_triple : Sp := fun vs H Q _ => ∃ a xs, vs = [.ref a] ∧ H a = some (.tup xs) ∧ xs.length = 3 ∧ Q (.bl true) H
/-- ascending: ints, or tuples of ints -/
def sp_are_ascending : Sp := fun vs H Q _ => ∃ a xs r, vs = [.ref a] ∧ H a = some (.tup xs) ∧ xs.length < 1000000 ∧ ((∃ ns : List Int, Paired (II H) xs ns ∧ (r = true ↔ ns.Pairwise (· < ·))) ∨ ∃ ns : List (List Int), Paired (TI H) xs ns ∧ (r = true ↔ ns.Pairwise (· < ·))) ∧ Q (.bl r) H
/-- sizes that an office may have -/
def Sizes (sz : List Int) : Prop := sz.length = 3 ∧ ∀ x ∈ sz, 1 ≤ x ∧ x ≤ 4
/-- a move -/
def MoveOk (sz : List Int) (many : Int) (m : List Int) : Prop := ∃ a b c s n k g, sz = [a, b, c] ∧ m = [s, n, k, g] ∧ (0 ≤ s ∧ s ≤ a - 1) ∧ (0 ≤ n ∧ n ≤ b - 1) ∧ (0 ≤ k ∧ k ≤ c - 1) ∧ 0 ≤ g ∧ g ≤ many - 1
def RowOk (sz : List Int) (many : Int) (r : List (List Int)) : Prop := (∀ m ∈ r, MoveOk sz many m) ∧ r.Pairwise (· < ·) ∧ r.length < 1000000
def MovesOk (sz : List Int) (mv : List (List (List Int))) : Prop := 1 ≤ mv.length ∧ mv.length ≤ 20 ∧ ∀ r ∈ mv, RowOk sz mv.length r
def MarkOk (sz : List Int) (k : Int) : Prop := ∃ a b c, sz = [a, b, c] ∧ 0 ≤ k ∧ k ≤ c - 1
def ClosOk (sz : List Int) (many : Int) (cl : List (List Int)) : Prop := (cl.length : Int) = many ∧ ∀ r ∈ cl, (∀ k ∈ r, ∃ a b c, sz = [a, b, c] ∧ 0 ≤ k ∧ k ≤ c - 1) ∧ r.Pairwise (· < ·) ∧ r.length < 1000000
/-- moves right but for their number and their order -/
def MovesSh (sz : List Int) (mv : List (List (List Int))) : Prop := 1 ≤ mv.length ∧ ∀ r ∈ mv, (∀ m ∈ r, MoveOk sz mv.length m) ∧ r.length < 1000000
def ClosSh (sz : List Int) (many : Int) (cl : List (List Int)) : Prop := (cl.length : Int) = many ∧ ∀ r ∈ cl, (∀ k ∈ r, MarkOk sz k) ∧ r.length < 1000000
theorem MovesSh.ok {sz : List Int} {mv : List (List (List Int))} (h : MovesSh sz mv) : (mv.length ≤ 20 ∧ ∀ r ∈ mv, r.Pairwise (· < ·)) ↔ MovesOk sz mv := ⟨fun ⟨a, b⟩ => ⟨h.1, a, fun r hr => ⟨(h.2 r hr).1, b r hr, (h.2 r hr).2⟩⟩, fun ⟨_, a, b⟩ => ⟨a, fun r hr => (b r hr).2.1⟩⟩
theorem ClosSh.ok {sz : List Int} {many : Int} {cl : List (List Int)} (h : ClosSh sz many cl) : (∀ r ∈ cl, r.Pairwise (· < ·)) ↔ ClosOk sz many cl := ⟨fun b => ⟨h.1, fun r hr => ⟨(h.2 r hr).1, b r hr, (h.2 r hr).2⟩⟩, fun ⟨_, b⟩ r hr => (b r hr).2.1⟩
abbrev MV : Rl (List (List (List Int))) := TT (TT TI)
abbrev CL : Rl (List (List Int)) := TT TI
def sp_are_sizes : Sp := fun vs H Q _ => ∃ v sz r, vs = [v] ∧ TI H v sz ∧ sz.length = 3 ∧ (r = true ↔ Sizes sz) ∧ ∀ H', Ke H H' → Q (.bl r) H'
def sp_is_move : Sp := fun vs H Q _ => ∃ u n v sz m, vs = [u, .int n, v] ∧ TI H u sz ∧ TI H v m ∧ MoveOk sz n m ∧ Q (.bl true) H
def sp_are_moves : Sp := fun vs H Q _ => ∃ u v sz mv r, vs = [u, v] ∧ TI H u sz ∧ MV H v mv ∧ MovesSh sz mv ∧ mv.length < 1000000 ∧ (r = true ↔ MovesOk sz mv) ∧ ∀ H', Ke H H' → Q (.bl r) H'
def sp_are_closings : Sp := fun vs H Q _ => ∃ u n v sz cl r, vs = [u, .int n, v] ∧ TI H u sz ∧ CL H v cl ∧ sz.length = 3 ∧ ClosSh sz n cl ∧ (r = true ↔ ClosOk sz n cl) ∧ ∀ H', Ke H H' → Q (.bl r) H'
theorem adj_pw {α : Type} [LT α] (tr : ∀ a b c : α, a < b → b < c → a < c) {l : List α} (h : ∀ i (_ : i + 1 < l.length), l[i] < l[i + 1]) : l.Pairwise (· < ·) := by
  rw [List.pairwise_iff_getElem]
  intro i j hi hj hij
  obtain ⟨d, rfl⟩ : ∃ d, j = i + 1 + d := ⟨j - (i + 1), by omega⟩
  induction d with
  | zero => exact h i hj
  | succ d ih => exact tr _ _ _ (ih (by omega) (by omega)) (h (i + 1 + d) hj)
theorem b_of {r : Bool} {p : Prop} (h : r = true ↔ p) (c : p) : r = true := h.mpr c
theorem b_not {r : Bool} {p : Prop} (h : r = true ↔ p) (c : ¬ p) : r = false := by
  cases r with
  | true => exact absurd (h.mp rfl) c
  | false => rfl
section
variable {P : Program} {w : World} {K : PySem.W.Frag} {mg : Str → Option Value} {base : Heap} (T : Txt K mg)
include T
theorem ok_is_integer : FnOk P w K mg base CX0 1 T.a_is_integer T.d_is_integer P_is_integer (sp_is_integer K) := by
  refine T.F_is_integer.ok sc_is_integer (fun vs H Q E h => ?_) (fun cdv A outer s H vs Q E hr h => ?_)
  · obtain ⟨v, b, rfl, _⟩ := h; rfl
  · obtain ⟨v, b, rfl, ⟨t, b1, b2, ty, h1, h2, rfl⟩, k⟩ := h
    refine ⟨_, (pss_one (ps_ret (pe_and (pe_callB call_isi (by rfl) T.n_isinstance (by decide +kernel) (pa_cons (pv 0) (pa_cons (pe_bltn (v := .ty "int") (by rfl) T.n_int (by decide +kernel) rfl) pa_nil))) (pe_one (pe_not (pe_callB call_isi (by rfl) T.n_isinstance (by decide +kernel) (pa_cons (pv 0) (pa_cons (pe_bltn (v := .ty "bool") (by rfl) T.n_bool (by decide +kernel) rfl) pa_nil)))))))), ?_⟩
    refine ⟨_, rfl, v, .ty "int", t, .type "int", b1, rfl, .ty _, ty, h1, b1, rfl, ?_⟩
    cases b1 with
    | false => exact iteF k
    | true => exact iteT ⟨_, rfl, v, .ty "bool", t, .type "bool", b2, rfl, .ty _, ty, h2, b2, rfl, k⟩
theorem ok_is_within : FnOk P w K mg base CX0 2 T.a_is_within T.d_is_within P_is_within (sp_is_within K) := by
  refine T.F_is_within.ok sc_is_within (fun vs H Q E h => ?_) (fun cdv A outer s H vs Q E hr h => ?_)
  · obtain ⟨v, a, b, r, rfl, _⟩ := h; rfl
  · obtain ⟨v, a, b, r, rfl, c, k⟩ := h
    refine ⟨_, (pss_one (ps_ret (pe_and (pe_call (ok_is_integer T) (hr.mono (by decide)) rfl T.g_is_integer T.k_is_integer T.b_is_integer .nil pass0 (pa_cons (pv 0) pa_nil)) (pe_one (pe_chain op_le op_le (pv 1) (pv 0) (pv 2)))))), ?_⟩
    rcases c with ⟨n, rfl, rfl⟩ | ⟨c, rfl⟩
    · refine ⟨_, rfl, _, true, rfl, isI_int n, true, rfl, iteT ⟨_, rfl, _, rfl, _, _, rfl, rfl, _, rfl, ?_⟩⟩
      by_cases c1 : a ≤ n
      · refine ifT c1 ⟨_, rfl, _, _, rfl, rfl, ?_⟩
        have e : decide (a ≤ n ∧ n ≤ b) = decide (n ≤ b) := by simp [c1]
        rw [e] at k
        exact k
      · refine ifF c1 ?_
        have e : decide (a ≤ n ∧ n ≤ b) = false := by simp [c1]
        rw [e] at k
        exact k
    · exact ⟨_, rfl, _, false, rfl, c, false, rfl, iteF k⟩
theorem ok_is_pair : FnOk P w K mg base CX0 1 T.a_is_pair T.d_is_pair P_is_pair sp_is_pair := by
  refine T.F_is_pair.ok sc_is_pair (fun vs H Q E h => ?_) (fun cdv A outer s H vs Q E hr h => ?_)
  · obtain ⟨a, xs, rfl, _⟩ := h; rfl
  · obtain ⟨a, xs, rfl, ha, hl, k⟩ := h
    refine ⟨_, (pss_one (ps_ret (pe_and (pe_callB call_isi (by rfl) T.n_isinstance (by decide +kernel) (pa_cons (pv 0) (pa_cons (pe_bltn (v := .ty "tuple") (by rfl) T.n_tuple (by decide +kernel) rfl) pa_nil))) (pe_one (pe_cmpR op_eq (pe_callB call_len (by rfl) T.n_len (by decide +kernel) (pa_cons (pv 0) pa_nil)) pe_int (nomark _)))))), ?_⟩
    refine ⟨_, rfl, .ref a, .ty "tuple", .type "tuple", .type "tuple", true, rfl, .ty _, .base (.tup ha), by rfl, true, rfl, ?_⟩
    refine iteT ⟨_, rfl, .ref a, 2, rfl, Or.inr ⟨xs, SqT.of ha, hl.symm⟩, rfl, k⟩
theorem ok_is_triple : FnOk P w K mg base CX0 1 T.a_is_triple T.d_is_triple P_is_triple sp_is_triple := by
  refine T.F_is_triple.ok sc_is_triple (fun vs H Q E h => ?_) (fun cdv A outer s H vs Q E hr h => ?_)
  · obtain ⟨a, xs, rfl, _⟩ := h; rfl
  · obtain ⟨a, xs, rfl, ha, hl, k⟩ := h
    refine ⟨_, (pss_one (ps_ret (pe_and (pe_callB call_isi (by rfl) T.n_isinstance (by decide +kernel) (pa_cons (pv 0) (pa_cons (pe_bltn (v := .ty "tuple") (by rfl) T.n_tuple (by decide +kernel) rfl) pa_nil))) (pe_one (pe_cmpR op_eq (pe_callB call_len (by rfl) T.n_len (by decide +kernel) (pa_cons (pv 0) pa_nil)) pe_int (nomark _)))))), ?_⟩
    refine ⟨_, rfl, .ref a, .ty "tuple", .type "tuple", .type "tuple", true, rfl, .ty _, .base (.tup ha), by rfl, true, rfl, ?_⟩
    refine iteT ⟨_, rfl, .ref a, 3, rfl, Or.inr ⟨xs, SqT.of ha, hl.symm⟩, rfl, k⟩
theorem ok_are_ascending : FnOk P w K mg base CX0 1 T.a_are_ascending T.d_are_ascending P_are_ascending sp_are_ascending := by
  refine T.F_are_ascending.ok sc_are_ascending (fun vs H Q E h => ?_) (fun cdv A outer s H vs Q E hr h => ?_)
  · obtain ⟨a, xs, r, rfl, _⟩ := h; rfl
  · obtain ⟨a, xs, r, rfl, ha, hl, asc, k⟩ := h
    refine ⟨_, (pss_cons (ps_for PassesOwn.never rfl (pi_range2 rfl T.n_range (pa_cons pe_int (pa_cons (pe_callB call_len (by rfl) T.n_len (by decide +kernel) (pa_cons (pv 0) pa_nil)) pa_nil))) (pg_name (i := 1) sc_are_ascending.nd rfl (Or.inl rfl)) (pss_one (ps_if (pt_cmpR (op_geD hr) (pe_ix ix_tup (pv 0) (pe_op op_sub (pv 1) pe_int) (fun _ _ => rfl)) (pe_ix ix_tup (pv 0) (pv 1) (fun _ _ => rfl)) (nomark _)) (pss_one (ps_ret pe_bl)) pss_nil)))
  (pss_one (ps_ret pe_bl))), ?_⟩
    refine ⟨_, rfl, .ref a, xs.length, rfl, Or.inr ⟨xs, SqT.of ha, rfl⟩, 1, xs.length, rfl, ⟨by decide, by decide, by omega, by omega⟩, for_range (fun i σ H' => H' = H ∧ (∃ o, σ = [some (.ref a), o]) ∧ ((∃ ns : List Int, Paired (II H) xs ns ∧ (r = true ↔ ns.Pairwise (· < ·)) ∧ ∀ j (_ : j + 1 < ns.length), j < i → ns[j] < ns[j + 1]) ∨ ∃ ns : List (List Int), Paired (TI H) xs ns ∧ (r = true ↔ ns.Pairwise (· < ·)) ∧ ∀ j (_ : j + 1 < ns.length), j < i → ns[j] < ns[j + 1]))
      ⟨rfl, ⟨none, rfl⟩, asc.imp (fun ⟨ns, h1, h2⟩ => ⟨ns, h1, h2, fun j _ h => by omega⟩) fun ⟨ns, h1, h2⟩ => ⟨ns, h1, h2, fun j _ h => by omega⟩⟩ ?_ ?_⟩
    · rintro i σ H' hi ⟨rfl, ⟨o, rfl⟩, st⟩
      have h1 : i + 1 < xs.length := by omega
      have e1 : atI xs (1 + (i : Int) - 1) = some xs[i] := atI_nat (by simp) (i := i) (by omega)
      have e2 : atI xs (1 + (i : Int)) = some xs[i + 1] := atI_nat (by simp) (i := i + 1) (by omega)
      refine ⟨_, rfl, _, rfl, _, _, rfl, rfl, a, xs, _, _, rfl, rfl, SqT.of ha, e1, _, rfl, _, rfl, a, xs, _, _, rfl, rfl, SqT.of ha, e2, ?_⟩
      rcases st with ⟨ns, pr, pw, old⟩ | ⟨ns, pr, pw, old⟩
      · have ln := plen pr
        obtain ⟨x, q1, r1⟩ := pgetL pr (i := i) (x := xs[i]) (by simp)
        obtain ⟨y, q2, r2⟩ := pgetL pr (i := i + 1) (x := xs[i + 1]) (by simp)
        obtain ⟨l1, q1⟩ := List.getElem?_eq_some_iff.mp q1
        obtain ⟨l2, q2⟩ := List.getElem?_eq_some_iff.mp q2
        refine Or.inl ⟨x, y, r1, r2, _, rfl, ?_⟩
        by_cases lt : x < y
        · refine ifF (by omega) ⟨rfl, ⟨_, rfl⟩, .inl ⟨ns, pr, pw, fun j hj hji => ?_⟩⟩
          by_cases e : j = i
          · subst e; rw [q1, q2]; exact lt
          · exact old j hj (by omega)
        · refine ifT (by omega) ?_
          rw [b_not pw (fun z => lt (by rw [← q1, ← q2]; exact List.pairwise_iff_getElem.mp z i (i + 1) l1 l2 (by omega)))] at k
          exact k
      · have ln := plen pr
        obtain ⟨x, q1, c, r1, r1'⟩ := pgetL pr (i := i) (x := xs[i]) (by simp)
        obtain ⟨y, q2, d, r2, r2'⟩ := pgetL pr (i := i + 1) (x := xs[i + 1]) (by simp)
        obtain ⟨l1, q1⟩ := List.getElem?_eq_some_iff.mp q1
        obtain ⟨l2, q2⟩ := List.getElem?_eq_some_iff.mp q2
        refine Or.inr ⟨c, d, x, y, r1, r2, SqT.of r1', SqT.of r2', _, rfl, ?_⟩
        by_cases lt : x < y
        · refine ifNT lt ⟨rfl, ⟨_, rfl⟩, .inr ⟨ns, pr, pw, fun j hj hji => ?_⟩⟩
          by_cases e : j = i
          · subst e; rw [q1, q2]; exact lt
          · exact old j hj (by omega)
        · refine ifNF lt ?_
          rw [b_not pw (fun z => lt (by rw [← q1, ← q2]; exact List.pairwise_iff_getElem.mp z i (i + 1) l1 l2 (by omega)))] at k
          exact k
    · rintro σ H' ⟨rfl, ⟨o, rfl⟩, st⟩
      have e : r = true := by
        rcases st with ⟨ns, pr, pw, old⟩ | ⟨ns, pr, pw, old⟩
        · have ln := plen pr
          exact pw.mpr (adj_pw (fun a b c h1 h2 => by omega) fun i hi => old i hi (by omega))
        · have ln := plen pr
          exact pw.mpr (adj_pw (fun a b c h1 h2 => List.lt_trans h1 h2) fun i hi => old i hi (by omega))
      rw [e] at k
      exact k
theorem ok_are_sizes : FnOk P w K mg base CX0 3 T.a_are_sizes T.d_are_sizes P_are_sizes sp_are_sizes := by
  refine T.F_are_sizes.ok sc_are_sizes (fun vs H Q E h => ?_) (fun cdv A outer s H vs Q E hr h => ?_)
  · obtain ⟨v, sz, r, rfl, _⟩ := h; rfl
  · obtain ⟨v, sz, r, rfl, ⟨a, rfl, ha⟩, h3, hz, k⟩ := h
    refine ⟨_, (pss_one (ps_ret (pe_and (pe_call (ok_is_triple T) (hr.mono (by decide)) rfl T.g_is_triple T.k_is_triple T.b_is_triple .nil pass0 (pa_cons (pv 0) pa_nil)) (pe_one (pe_callB (cr_all rfl) (by rfl) T.n_all (by decide +kernel) (pa_cons (pe_lc (own := [("size", 1)]) rfl sc_are_sizes.nd (pi_tup (pv 0)) (blkOk_by (own := [("size", 1)]) (N := N_are_sizes) (sc := defScope s_are_sizes) (by decide +kernel)) (fun _ _ _ _ _ => (pg_name (i := 1) sc_are_sizes.nd rfl (Or.inl rfl))) (fun _ _ _ _ _ => pts_nil) (fun _ _ _ _ _ => (pe_call (ok_is_within T) (hr.mono (by decide)) rfl T.g_is_within T.k_is_within T.b_is_within .nil pass0 (pa_cons (pv 1) (pa_cons pe_int (pa_cons (pe_glob (v := .int (4)) rfl T.g_MOST_SIZE ⟨_, rfl⟩) pa_nil)))))) pa_nil)))))), ?_⟩
    refine ⟨_, rfl, a, _, rfl, ha, by simpa using h3, true, rfl, iteT ⟨_, rfl, a, rfl, ⟨_, SqT.of ha⟩, fun D hD => lc_T (R := II H) BB.stb (f := fun x => decide (1 ≤ x ∧ x ≤ 4)) hD (by simp [sizeLine_eq]; omega) (pmap_int sz) ha ?_ ?_⟩⟩
    · rintro v x H' hx rfl k' Q' q'
      exact ⟨rfl, _, rfl, .int x, 1, 4, _, rfl, .inl ⟨x, rfl, rfl⟩, q' _ _ .refl rfl⟩
    · intro H' ws k' hD' pw
      refine ⟨D, sz.map fun x => decide (1 ≤ x ∧ x ≤ 4), rfl, SqL.of (by rw [hD']; exact congrArg (fun l => some (HO.lst l)) (paired_bl pw)), ?_⟩
      have e : ((sz.map fun x => decide (1 ≤ x ∧ x ≤ 4)).all id) = r := by
        rw [Bool.eq_iff_iff, hz, List.all_eq_true]
        constructor
        · exact fun z => ⟨h3, fun x hx => of_decide_eq_true (z _ (List.mem_map.mpr ⟨x, hx, rfl⟩))⟩
        · rintro ⟨_, z⟩ y hy
          obtain ⟨x, hx, rfl⟩ := List.mem_map.mp hy
          exact decide_eq_true (z x hx)
      rw [e]
      exact k _ k'
theorem ok_is_move : FnOk P w K mg base CX0 3 T.a_is_move T.d_is_move P_is_move sp_is_move := by
  refine T.F_is_move.ok sc_is_move (fun vs H Q E h => ?_) (fun cdv A outer s H vs Q E hr h => ?_)
  · obtain ⟨u, n, v, sz, m, rfl, _⟩ := h; rfl
  · obtain ⟨u, n, v, sz, m, rfl, ⟨a, rfl, ha⟩, ⟨b, rfl, hb⟩, ⟨x, y, z, s', t, k', g, rfl, rfl, c1, c2, c3, c4⟩, k⟩ := h
    refine ⟨_, (pss_cons (ps_if (PW.pt (pw_or (pt_not (pt_val (pe_callB call_isi (by rfl) T.n_isinstance (by decide +kernel) (pa_cons (pv 2) (pa_cons (pe_bltn (v := .ty "tuple") (by rfl) T.n_tuple (by decide +kernel) rfl) pa_nil))))) (pw_or1 (pt_cmpR op_ne (pe_callB call_len (by rfl) T.n_len (by decide +kernel) (pa_cons (pv 2) pa_nil)) pe_int (nomark _))))) (pss_one (ps_ret pe_bl)) pss_nil)
  (pss_cons (ps_asg (pv 0) (pg_tup rfl (pgs_cons (pg_name (i := 3) sc_is_move.nd rfl (Or.inl rfl)) (pgs_cons (pg_name (i := 4) sc_is_move.nd rfl (Or.inl rfl)) (pgs_cons (pg_name (i := 5) sc_is_move.nd rfl (Or.inl rfl)) pgs_nil)))))
  (pss_cons (ps_if (PW.pt (pw_or (pt_not (pt_val (pe_call (ok_is_within T) (hr.mono (by decide)) rfl T.g_is_within T.k_is_within T.b_is_within .nil pass0 (pa_cons (pe_ix ix_tup (pv 2) pe_int (fun _ _ => rfl)) (pa_cons pe_int (pa_cons (pe_op op_sub (pv 3) pe_int) pa_nil)))))) (pw_or1 (pt_not (pt_val (pe_call (ok_is_within T) (hr.mono (by decide)) rfl T.g_is_within T.k_is_within T.b_is_within .nil pass0 (pa_cons (pe_ix ix_tup (pv 2) pe_int (fun _ _ => rfl)) (pa_cons pe_int (pa_cons (pe_op op_sub (pv 4) pe_int) pa_nil))))))))) (pss_one (ps_ret pe_bl)) pss_nil)
  (pss_one (ps_ret (pe_and (pe_call (ok_is_within T) (hr.mono (by decide)) rfl T.g_is_within T.k_is_within T.b_is_within .nil pass0 (pa_cons (pe_ix ix_tup (pv 2) pe_int (fun _ _ => rfl)) (pa_cons pe_int (pa_cons (pe_op op_sub (pv 5) pe_int) pa_nil)))) (pe_one (pe_call (ok_is_within T) (hr.mono (by decide)) rfl T.g_is_within T.k_is_within T.b_is_within .nil pass0 (pa_cons (pe_ix ix_tup (pv 2) pe_int (fun _ _ => rfl)) (pa_cons pe_int (pa_cons (pe_op op_sub (pv 1) pe_int) pa_nil))))))))))), ?_⟩
    refine ⟨_, rfl, .ref b, .ty "tuple", .type "tuple", .type "tuple", true, rfl, .ty _, .base (.tup hb), by rfl, true, rfl, iteF ⟨_, rfl, .ref b, 4, rfl, Or.inr ⟨_, SqT.of hb, rfl⟩, rfl, _, rfl, ifNT rfl ?_⟩⟩
    refine ⟨_, rfl, a, _, rfl, SqT.of ha, rfl, _, _, rfl, _, _, rfl, _, _, rfl, rfl, ?_⟩
    refine ⟨_, rfl, b, _, 0, _, rfl, rfl, SqT.of hb, rfl, _, rfl, _, _, rfl, rfl, .int s', 0, x - 1, true, rfl, isW_int c1, true, rfl, iteF ?_⟩
    refine ⟨_, rfl, b, _, 1, _, rfl, rfl, SqT.of hb, rfl, _, rfl, _, _, rfl, rfl, .int t, 0, y - 1, true, rfl, isW_int c2, true, rfl, iteF ?_⟩
    refine ⟨_, rfl, b, _, 2, _, rfl, rfl, SqT.of hb, rfl, _, rfl, _, _, rfl, rfl, .int k', 0, z - 1, true, rfl, isW_int c3, true, rfl, iteT ?_⟩
    exact ⟨_, rfl, b, _, 3, _, rfl, rfl, SqT.of hb, rfl, _, rfl, _, _, rfl, rfl, .int g, 0, n - 1, true, rfl, isW_int c4, k⟩
theorem ok_are_moves : FnOk P w K mg base CX0 4 T.a_are_moves T.d_are_moves P_are_moves sp_are_moves := by
  refine T.F_are_moves.ok sc_are_moves (fun vs H Q E h => ?_) (fun cdv A outer s H vs Q E hr h => ?_)
  · obtain ⟨u, v, sz, mv, r, rfl, _⟩ := h; rfl
  · obtain ⟨u, v, sz, mv, r, rfl, ⟨a, rfl, ha⟩, ⟨b, vs, rfl, hb, pb⟩, hm, lmv, hr0, k⟩ := h
    rw [← hm.ok] at hr0
    have el := plen pb
    refine ⟨_, (pss_cons (ps_if (PW.pt (pw_or (pt_not (pt_val (pe_callB call_isi (by rfl) T.n_isinstance (by decide +kernel) (pa_cons (pv 1) (pa_cons (pe_bltn (v := .ty "tuple") (by rfl) T.n_tuple (by decide +kernel) rfl) pa_nil))))) (pw_or1 (pt_not (pt_chain op_le op_le pe_int (pe_callB call_len (by rfl) T.n_len (by decide +kernel) (pa_cons (pv 1) pa_nil)) (pe_glob (v := .int (20)) rfl T.g_MOST_STANDINGS ⟨_, rfl⟩)))))) (pss_one (ps_ret pe_bl)) pss_nil)
  (pss_cons (ps_for PassesOwn.never rfl (pi_tup (pv 1)) (pg_name (i := 2) sc_are_moves.nd rfl (Or.inl rfl)) (pss_cons (ps_if (PW.pt (pw_or (pt_not (pt_val (pe_callB call_isi (by rfl) T.n_isinstance (by decide +kernel) (pa_cons (pv 2) (pa_cons (pe_bltn (v := .ty "tuple") (by rfl) T.n_tuple (by decide +kernel) rfl) pa_nil))))) (pw_or1 (pt_not (pt_val (pe_callB (cr_all rfl) (by rfl) T.n_all (by decide +kernel) (pa_cons (pe_lc (own := [("move", 3)]) rfl sc_are_moves.nd (pi_tup (pv 2)) (blkOk_by (own := [("move", 3)]) (N := N_are_moves) (sc := defScope s_are_moves) (by decide +kernel)) (fun _ _ _ _ _ => (pg_name (i := 3) sc_are_moves.nd rfl (Or.inl rfl))) (fun _ _ _ _ _ => pts_nil) (fun _ _ _ _ _ => (pe_call (ok_is_move T) (hr.mono (by decide)) rfl T.g_is_move T.k_is_move T.b_is_move .nil pass0 (pa_cons (pv 0) (pa_cons (pe_callB (lenK K rfl) (by rfl) T.n_len (by decide +kernel) (pa_cons (pv 1) pa_nil)) (pa_cons (pv 3) pa_nil)))))) pa_nil))))))) (pss_one (ps_ret pe_bl)) pss_nil)
  (pss_one (ps_if (pt_not (pt_val (pe_call (ok_are_ascending T) (hr.mono (by decide)) rfl T.g_are_ascending T.k_are_ascending T.b_are_ascending .nil pass0 (pa_cons (pv 2) pa_nil)))) (pss_one (ps_ret pe_bl)) pss_nil))))
  (pss_one (ps_ret pe_bl)))), ?_⟩
    refine ⟨_, rfl, .ref b, .ty "tuple", .type "tuple", .type "tuple", true, rfl, .ty _, .base (.tup hb), by rfl, true, rfl, iteF ⟨_, rfl, .ref b, vs.length, rfl, Or.inr ⟨_, SqT.of hb, rfl⟩, _, _, rfl, rfl, true, bT (by have := hm.1; omega), iteT ⟨_, _, rfl, rfl, _, rfl, ?_⟩⟩⟩
    by_cases c20 : mv.length ≤ 20
    · refine ifNT (by omega) ?_
      refine ⟨_, rfl, b, rfl, ⟨_, SqT.of hb⟩, fo_T (R := TT TI H) (fun d σ H' => Ke H H' ∧ (∃ o o', σ = [some (.ref a), some (.ref b), o, o']) ∧ ∀ r ∈ d, r.Pairwise (· < ·)) pb ⟨.refl, ⟨_, _, rfl⟩, fun r z => by cases z⟩ (fun d σ H' p => p.1.at hb) ?_ ?_⟩
      · rintro d x r' v σ H1 e ⟨c, ws, rfl, hc, pc⟩ ⟨k1, ⟨o, o', rfl⟩, old⟩
        have hxm : x ∈ mv := by rw [e]; simp
        have hx := hm.2 x hxm
        have hc1 := k1.at hc
        have pc1 : Paired (TI H1) ws x := pimp (fun v x q => TI.stb _ _ v x k1.tx q) pc
        have lw := plen pc1
        refine ⟨_, rfl, .ref c, .ty "tuple", .type "tuple", .type "tuple", true, rfl, .ty _, .base (.tup hc1), by rfl, true, rfl, iteF ?_⟩
        refine ⟨_, rfl, c, rfl, ⟨_, SqT.of hc1⟩, fun D hD => lc_T (R := TI H1) BB.stb (f := fun _ => true) hD (by have := hx.2; simp [sizeLine_eq]; omega) pc1 hc1 ?_ ?_⟩
        · intro v m H2 hmm rm k2 Q' q'
          exact ⟨rfl, _, rfl, _, rfl, .ref b, vs.length, rfl, Or.inr ⟨_, SqT.of (Ke.at (k1.trans k2) hb), rfl⟩, _, rfl, _, _, _, sz, m, rfl, ⟨a, rfl, Ke.at (k1.trans k2) ha⟩, TI.stb _ _ _ _ k2.tx rm, (by rw [el]; exact hx.1 m hmm), q' _ _ .refl rfl⟩
        · intro H2 ws2 k2 hD2 pw2
          refine ⟨D, x.map fun _ => true, rfl, SqL.of (by rw [hD2]; exact congrArg (fun l => some (HO.lst l)) (paired_bl pw2)), _, rfl, ?_⟩
          rw [show ((x.map fun _ => true).all id) = true by simp]
          by_cases cp : x.Pairwise (· < ·)
          · refine iteF ⟨_, rfl, c, ws, true, rfl, k2.at hc1, (by have := hx.2; omega), Or.inr ⟨x, pimp (fun v x q => TI.stb _ _ v x k2.tx q) pc1, ⟨fun _ => cp, fun _ => rfl⟩⟩, _, rfl, iteF ⟨k1.trans k2, ⟨_, _, rfl⟩, fun y hy => ?_⟩⟩
            rcases List.mem_append.mp hy with z | z
            · exact old y z
            · rw [List.mem_singleton.mp z]; exact cp
          · refine iteF ⟨_, rfl, c, ws, false, rfl, k2.at hc1, (by have := hx.2; omega), Or.inr ⟨x, pimp (fun v x q => TI.stb _ _ v x k2.tx q) pc1, ⟨fun z => (by cases z), fun z => absurd z cp⟩⟩, _, rfl, iteT ?_⟩
            rw [b_not hr0 (fun z => cp (z.2 x hxm))] at k
            exact k _ (k1.trans k2)
      · rintro σ H1 ⟨k1, ⟨o, o', rfl⟩, old⟩
        rw [b_of hr0 ⟨c20, old⟩] at k
        exact k _ k1
    · refine ifNF (by omega) ?_
      rw [b_not hr0 (fun z => c20 z.1)] at k
      exact k _ .refl
theorem ok_are_closings : FnOk P w K mg base CX0 3 T.a_are_closings T.d_are_closings P_are_closings sp_are_closings := by
  refine T.F_are_closings.ok sc_are_closings (fun vs H Q E h => ?_) (fun cdv A outer s H vs Q E hr h => ?_)
  · obtain ⟨u, n, v, sz, cl, r, rfl, _⟩ := h; rfl
  · obtain ⟨u, n, v, sz, cl, r, rfl, ⟨a, rfl, ha⟩, ⟨b, vs, rfl, hb, pb⟩, h3, hm, hr0, k⟩ := h
    rw [← hm.ok] at hr0
    have el := plen pb
    refine ⟨_, (pss_cons (ps_if (PW.pt (pw_or (pt_not (pt_val (pe_callB call_isi (by rfl) T.n_isinstance (by decide +kernel) (pa_cons (pv 2) (pa_cons (pe_bltn (v := .ty "tuple") (by rfl) T.n_tuple (by decide +kernel) rfl) pa_nil))))) (pw_or1 (pt_cmpR op_ne (pe_callB call_len (by rfl) T.n_len (by decide +kernel) (pa_cons (pv 2) pa_nil)) (pv 1) (nomark _))))) (pss_one (ps_ret pe_bl)) pss_nil)
  (pss_cons (ps_for PassesOwn.never rfl (pi_tup (pv 2)) (pg_name (i := 3) sc_are_closings.nd rfl (Or.inl rfl)) (pss_cons (ps_if (PW.pt (pw_or (pt_not (pt_val (pe_callB call_isi (by rfl) T.n_isinstance (by decide +kernel) (pa_cons (pv 3) (pa_cons (pe_bltn (v := .ty "tuple") (by rfl) T.n_tuple (by decide +kernel) rfl) pa_nil))))) (pw_or1 (pt_not (pt_val (pe_callB (cr_all rfl) (by rfl) T.n_all (by decide +kernel) (pa_cons (pe_lc (own := [("mark", 4)]) rfl sc_are_closings.nd (pi_tup (pv 3)) (blkOk_by (own := [("mark", 4)]) (N := N_are_closings) (sc := defScope s_are_closings) (by decide +kernel)) (fun _ _ _ _ _ => (pg_name (i := 4) sc_are_closings.nd rfl (Or.inl rfl))) (fun _ _ _ _ _ => pts_nil) (fun _ _ _ _ _ => (pe_call (ok_is_within T) (hr.mono (by decide)) rfl T.g_is_within T.k_is_within T.b_is_within .nil pass0 (pa_cons (pv 4) (pa_cons pe_int (pa_cons (pe_op op_sub (pe_ix (ix_tupK K rfl) (pv 0) pe_int (fun _ _ => rfl)) pe_int) pa_nil)))))) pa_nil))))))) (pss_one (ps_ret pe_bl)) pss_nil)
  (pss_one (ps_if (pt_not (pt_val (pe_call (ok_are_ascending T) (hr.mono (by decide)) rfl T.g_are_ascending T.k_are_ascending T.b_are_ascending .nil pass0 (pa_cons (pv 3) pa_nil)))) (pss_one (ps_ret pe_bl)) pss_nil))))
  (pss_one (ps_ret pe_bl)))), ?_⟩
    refine ⟨_, rfl, .ref b, .ty "tuple", .type "tuple", .type "tuple", true, rfl, .ty _, .base (.tup hb), by rfl, true, rfl, iteF ⟨_, rfl, .ref b, vs.length, rfl, Or.inr ⟨_, SqT.of hb, rfl⟩, _, rfl, rfl, _, rfl, ?_⟩⟩
    refine ifNT (by rw [el, hm.1]) ?_
    refine ⟨_, rfl, b, rfl, ⟨_, SqT.of hb⟩, fo_T (R := TI H) (fun d σ H' => Ke H H' ∧ (∃ o o', σ = [some (.ref a), some (.int n), some (.ref b), o, o']) ∧ ∀ r ∈ d, r.Pairwise (· < ·)) pb ⟨.refl, ⟨_, _, rfl⟩, fun r z => by cases z⟩ (fun d σ H' p => p.1.at hb) ?_ ?_⟩
    · rintro d x r' v σ H1 e ⟨c, rfl, hc⟩ ⟨k1, ⟨o, o', rfl⟩, old⟩
      have hxm : x ∈ cl := by rw [e]; simp
      have hx := hm.2 x hxm
      have hc1 := k1.at hc
      refine ⟨_, rfl, .ref c, .ty "tuple", .type "tuple", .type "tuple", true, rfl, .ty _, .base (.tup hc1), by rfl, true, rfl, iteF ?_⟩
      refine ⟨_, rfl, c, rfl, ⟨_, SqT.of hc1⟩, fun D hD => lc_T (R := II H1) BB.stb (f := fun _ => true) hD (by have := hx.2; simp [sizeLine_eq]; omega) (pmap_int x) hc1 ?_ ?_⟩
      · rintro v m H2 hmm rfl k2 Q' q'
        obtain ⟨p, q, z, rfl, c1, c2⟩ := hx.1 m hmm
        exact ⟨rfl, _, rfl, _, rfl, a, _, 2, _, rfl, rfl, SqT.of (Ke.at (k1.trans k2) ha), rfl, _, _, rfl, rfl, .int m, 0, z - 1, true, rfl, isW_int ⟨c1, c2⟩, q' _ _ .refl rfl⟩
      · intro H2 ws2 k2 hD2 pw2
        refine ⟨D, x.map fun _ => true, rfl, SqL.of (by rw [hD2]; exact congrArg (fun l => some (HO.lst l)) (paired_bl pw2)), _, rfl, ?_⟩
        rw [show ((x.map fun _ => true).all id) = true by simp]
        by_cases cp : x.Pairwise (· < ·)
        · refine iteF ⟨_, rfl, c, _, true, rfl, k2.at hc1, (by have := hx.2; simp; omega), Or.inl ⟨x, pmap_int x, ⟨fun _ => cp, fun _ => rfl⟩⟩, _, rfl, iteF ⟨k1.trans k2, ⟨_, _, rfl⟩, fun y hy => ?_⟩⟩
          rcases List.mem_append.mp hy with z | z
          · exact old y z
          · rw [List.mem_singleton.mp z]; exact cp
        · refine iteF ⟨_, rfl, c, _, false, rfl, k2.at hc1, (by have := hx.2; simp; omega), Or.inl ⟨x, pmap_int x, ⟨fun z => (by cases z), fun z => absurd z cp⟩⟩, _, rfl, iteT ?_⟩
          rw [b_not hr0 (fun z => cp (z x hxm))] at k
          exact k _ (k1.trans k2)
    · rintro σ H1 ⟨k1, ⟨o, o', rfl⟩, old⟩
      rw [b_of hr0 old] at k
      exact k _ k1
end
end Fd
set_option Elab.async false
set_option linter.all false
set_option maxRecDepth 100000
set_option maxHeartbeats 4000000
namespace Fd
open PySem PySem.Spec PyProof.Rows L2
/-! ### a heap without what may change -/
open Classical in
noncomputable def Hd (S : Addr → Prop) (H : Hp) : Hp := fun a => if S a then none else H a
section
variable {S : Addr → Prop} {H H' : Hp} {a : Addr} {o : HO}
theorem Hd.at (h : Hd S H a = some o) : ¬ S a ∧ H a = some o := by
  unfold Hd at h
  by_cases c : S a
  · rw [if_pos c] at h; cases h
  · rw [if_neg c] at h; exact ⟨c, h⟩
theorem Hd.get (c : ¬ S a) (h : H a = some o) : Hd S H a = some o := by
  unfold Hd; rw [if_neg c]; exact h
theorem Hd.sub (a : Addr) (o : HO) (h : Hd S H a = some o) : H a = some o := (Hd.at h).2
theorem Hd.ke (k : Ks S H H') : Ke (Hd S H) (Hd S H') := Ke.of fun a o h => Hd.get (Hd.at h).1 (k.keep a o (Hd.at h).1 (Hd.at h).2)
theorem Hd.tx (k : Tx H H') : Tx (Hd S H) (Hd S H') := ⟨fun a xs h => Hd.get (Hd.at h).1 (k.tup a xs (Hd.at h).2)⟩
theorem Hd.anti {S' : Addr → Prop} (h : ∀ a, S a → S' a) : ∀ a o, Hd S' H a = some o → Hd S H a = some o := fun a o e => Hd.get (fun z => (Hd.at e).1 (h a z)) (Hd.at e).2
theorem Hd.no : Hd No H = H := by
  funext a; unfold Hd; rw [if_neg (fun z => z)]
end
/-- a smaller heap: what it tells holds in the greater one -/
abbrev Le (H H' : Hp) : Prop := ∀ a o, H a = some o → H' a = some o
theorem Le.ke {H H' : Hp} (h : Le H H') : Ke H H' := Ke.of h
theorem Hd.le {S : Addr → Prop} {H : Hp} : Le (Hd S H) H := Hd.sub

/-! ### the office -/
abbrev keyI (ns : List Int) : List Key := ns.map Sum.inl
theorem keyI_kV (ns : List Int) : (keyI ns).map kV = ns.map V.int := by
  rw [List.map_map]; rfl
theorem keyI_inj {ns ms : List Int} (h : keyI ns = keyI ms) : ns = ms := (List.map_inj_right (fun _ _ e => Sum.inl.inj e)).mp h
def goalsIn (row : List (List Int)) (st : List Int) : List Int := row.filterMap fun m => if m.take 3 = st then m[3]? else none
theorem goalsIn_snoc (row : List (List Int)) (s n k g : Int) (st : List Int) : goalsIn (row ++ [[s, n, k, g]]) st = if [s, n, k] = st then goalsIn row st ++ [g] else goalsIn row st := by
  unfold goalsIn
  rw [List.filterMap_append]
  by_cases c : [s, n, k] = st
  · rw [if_pos c]; simp [c]
  · rw [if_neg c]; simp [c]
/-- the goals of a row, by steps -/
def GA (H : Hp) (kvs : List (List Key × V)) (row : List (List Int)) : Prop := kvs.length ≤ row.length ∧
  ∀ st : List Int, (valV kvs (keyI st) = none ∧ goalsIn row st = []) ∨ ∃ li, valV kvs (keyI st) = some (.ref li) ∧ H li = some (.lst ((goalsIn row st).map V.int))
def Kept : Rl (List (List Int)) := fun H v row => ∃ d kvs, v = .ref d ∧ H d = some (.dT kvs) ∧ GA H kvs row
theorem Kept.sto : Sto Kept := fun H H' v row k ⟨d, kvs, e, hd, l, g⟩ => ⟨d, kvs, e, k.at hd, l, fun st => (g st).imp id fun ⟨li, h1, h2⟩ => ⟨li, h1, k.at h2⟩⟩
/-- .. while it is made -/
def GAi (H1 H : Hp) (g : Addr) (kvs : List (List Key × V)) (row : List (List Int)) : Prop := kvs.length ≤ row.length ∧
  (∀ st : List Int, (valV kvs (keyI st) = none ∧ goalsIn row st = []) ∨ ∃ li, valV kvs (keyI st) = some (.ref li) ∧ H1 li = none ∧ li ≠ g ∧ H li = some (.lst ((goalsIn row st).map V.int))) ∧
  ∀ st st' li, valV kvs (keyI st) = some (.ref li) → valV kvs (keyI st') = some (.ref li) → st = st'
theorem GAi.nil {H1 H : Hp} {g : Addr} : GAi H1 H g [] [] := ⟨Nat.le_refl _, fun st => .inl ⟨rfl, rfl⟩, fun st st' li h => by cases h⟩
theorem GAi.old {H1 H H2 : Hp} {g li : Addr} {kvs : List (List Key × V)} {row : List (List Int)} {s n k go : Int} (x : GAi H1 H g kvs row) (h : valV kvs (keyI [s, n, k]) = some (.ref li)) (hk : ∀ a xs, a ≠ li → H a = some (.lst xs) → H2 a = some (.lst xs))
    (h2 : H2 li = some (.lst ((goalsIn row [s, n, k] ++ [go]).map V.int))) : GAi H1 H2 g kvs (row ++ [[s, n, k, go]]) := by
  obtain ⟨x1, x2, x3⟩ := x
  refine ⟨by simp; omega, fun st => ?_, x3⟩
  rw [goalsIn_snoc]
  by_cases c : [s, n, k] = st
  · subst c
    rcases x2 [s, n, k] with ⟨z, _⟩ | ⟨l', h1, h3, h4, _⟩
    · rw [z] at h; cases h
    · rw [h1] at h; cases h
      exact .inr ⟨li, h1, h3, h4, by rw [if_pos rfl]; exact h2⟩
  · rw [if_neg c]
    rcases x2 st with z | ⟨l', h1, h3, h4, h5⟩
    · exact .inl z
    · refine .inr ⟨l', h1, h3, h4, hk l' _ (fun e => ?_) h5⟩
      subst e
      exact c (x3 _ _ _ h h1)
theorem GAi.new {H1 H H2 : Hp} {g li : Addr} {kvs : List (List Key × V)} {row : List (List Int)} {s n k go : Int} (x : GAi H1 H g kvs row) (h : valV kvs (keyI [s, n, k]) = none) (hl : H li = none) (hl1 : H1 li = none) (hg : li ≠ g) (hk : ∀ a xs, a ≠ li → a ≠ g → H a = some (.lst xs) → H2 a = some (.lst xs))
    (h2 : H2 li = some (.lst [V.int go])) : GAi H1 H2 g (putK kvs (keyI [s, n, k]) (.ref li)) (row ++ [[s, n, k, go]]) := by
  obtain ⟨x1, x2, x3⟩ := x
  have old : ∀ st l', valV kvs (keyI st) = some (.ref l') → l' ≠ li := fun st l' e z => by
    subst z
    rcases x2 st with ⟨q, _⟩ | ⟨m, h1, _, _, h5⟩
    · rw [q] at e; cases e
    · rw [h1] at e; cases e; rw [hl] at h5; cases h5
  refine ⟨Nat.le_trans (length_putK _ _ _) (by simp; omega), fun st => ?_, fun st st' l' e1 e2 => ?_⟩
  · rw [goalsIn_snoc, valV_put]
    by_cases c : [s, n, k] = st
    · subst c
      rw [if_pos rfl, if_pos rfl]
      rcases x2 [s, n, k] with ⟨_, z⟩ | ⟨l', h1, _⟩
      · exact .inr ⟨li, rfl, hl1, hg, by rw [z]; exact h2⟩
      · rw [h] at h1; cases h1
    · rw [if_neg c, if_neg (fun z => c (keyI_inj z).symm)]
      rcases x2 st with z | ⟨l', h1, h3, h4, h5⟩
      · exact .inl z
      · exact .inr ⟨l', h1, h3, h4, hk l' _ (old st l' h1) h4 h5⟩
  · rw [valV_put] at e1 e2
    by_cases c1 : keyI st = keyI [s, n, k] <;> by_cases c2 : keyI st' = keyI [s, n, k]
    · exact (keyI_inj c1).trans (keyI_inj c2).symm
    · rw [if_pos c1] at e1; rw [if_neg c2] at e2; cases e1
      exact absurd rfl (old _ _ e2)
    · rw [if_neg c1] at e1; rw [if_pos c2] at e2; cases e2
      exact absurd rfl (old _ _ e1)
    · rw [if_neg c1] at e1; rw [if_neg c2] at e2
      exact x3 _ _ _ e1 e2

/-- what a class of offices must have -/
structure OC (K : PySem.W.Frag) (C : Addr) : Prop where
  c : Cls K C
  n1 : NoAttr K C "sizes"
  n2 : NoAttr K C "moves"
  n3 : NoAttr K C "closings"
  n4 : NoAttr K C "kept_goals"
def offF (vs vm vc vk : V) : List (Str × V) := putF "kept_goals" vk (putF "closings" vc (putF "moves" vm (putF "sizes" vs [])))
section
variable (vs vm vc vk : V)
theorem offF_s : (offF vs vm vc vk).lookup ("sizes" : Str) = some vs := by
  unfold offF
  rw [lookup_putF, if_neg (by decide +kernel), lookup_putF, if_neg (by decide +kernel), lookup_putF, if_neg (by decide +kernel), lookup_putF, if_pos rfl]
theorem offF_m : (offF vs vm vc vk).lookup ("moves" : Str) = some vm := by
  unfold offF
  rw [lookup_putF, if_neg (by decide +kernel), lookup_putF, if_neg (by decide +kernel), lookup_putF, if_pos rfl]
theorem offF_c : (offF vs vm vc vk).lookup ("closings" : Str) = some vc := by
  unfold offF
  rw [lookup_putF, if_neg (by decide +kernel), lookup_putF, if_pos rfl]
theorem offF_k : (offF vs vm vc vk).lookup ("kept_goals" : Str) = some vk := by
  unfold offF
  rw [lookup_putF, if_pos rfl]
end
/-- an office stands at p -/
structure OffAt (C : Addr) (H : Hp) (p : Addr) (sz : List Int) (mv : List (List (List Int))) (cl : List (List Int)) : Prop where
  ex : ∃ dx vs vm vc l ds, H p = some (.ins C dx (offF vs vm vc (.ref l))) ∧ TI H vs sz ∧ MV H vm mv ∧ CL H vc cl ∧ H l = some (.lst ds) ∧ Paired (Kept H) ds mv
theorem OffAt.ke {C : Addr} {H H' : Hp} {p : Addr} {sz : List Int} {mv : List (List (List Int))} {cl : List (List Int)} (x : OffAt C H p sz mv cl) (k : Ke H H') : OffAt C H' p sz mv cl := by
  obtain ⟨dx, vs, vm, vc, l, ds, h1, h2, h3, h4, h5, h6⟩ := x.ex
  exact ⟨dx, vs, vm, vc, l, ds, k.at h1, TI.stb _ _ _ _ k.tx h2, TT.stb (TT.stb TI.stb) _ _ _ _ k.tx h3, TT.stb TI.stb _ _ _ _ k.tx h4, k.at h5, pimp (fun v x r => Kept.sto _ _ v x k r) h6⟩
/-- rows whose moves have four parts -/
def Fours (mv : List (List (List Int))) : Prop := ∀ r ∈ mv, r.length < 1000000 ∧ ∀ m ∈ r, m.length = 4
/-- keep(sizes, moves, closings) of an object at p; S: what the office must not lean on -/
def sp_keep (K : PySem.W.Frag) : Sp := fun xs H Q _ => ∃ S C p dx vs vm vc sz mv cl, xs = [.ref p, vs, vm, vc] ∧ OC K C ∧ H p = some (.ins C dx []) ∧ ¬ S p ∧ (∀ a, S a → H a ≠ none) ∧ TI (Hd S H) vs sz ∧ MV (Hd S H) vm mv ∧ CL (Hd S H) vc cl ∧ Fours mv ∧ mv.length < 1000000 ∧
  ∀ H', Ks (· = p) H H' → OffAt C (Hd S H') p sz mv cl → Q .non H'
section
variable {P : Program} {w : World} {K : PySem.W.Frag} {mg : Str → Option Value} {base : Heap} (T : Txt K mg)
include T
theorem Txt.oc : OC K T.a_Office := ⟨T.c_Office, T.f_Office_sizes, T.f_Office_moves, T.f_Office_closings, T.f_Office_kept_goals⟩
theorem Txt.ocR : OC K T.a_RawOffice := ⟨T.c_RawOffice, T.f_RawOffice_sizes, T.f_RawOffice_moves, T.f_RawOffice_closings, T.f_RawOffice_kept_goals⟩
omit T in
theorem ok_keep {f : Addr} {fd : FuncData} (F : Fun K "keep" "Office.keep" s_Office_keep f fd) : FnOk P w K mg base CX0 1 f fd P_Office_keep (sp_keep K) := by
  refine F.ok sc_Office_keep (fun vs H Q E h => ?_) (fun cdv A outer s H vs Q E hr h => ?_)
  · obtain ⟨S, C, p, dx, vs, vm, vc, sz, mv, cl, rfl, _⟩ := h; rfl
  · obtain ⟨S, C, p, dx, vs, vm, vc, sz, mv, cl, rfl, oc, hp, sp, hS, hs, ⟨m, ms, rfl, hm, pm⟩, hc, f4, lm, k⟩ := h
    have hu := hu_of hr
    have oc' := oc
    obtain ⟨c, n1, n2, n3, n4⟩ := oc
    have elm := plen pm
    refine ⟨_, (pss_cons (ps_fld (pv 0) (pv 1) rfl)
  (pss_cons (ps_fld (pv 0) (pv 2) rfl)
  (pss_cons (ps_fld (pv 0) (pv 3) rfl)
  (pss_cons (ps_fld (pv 0) (pe_lst pa_nil) rfl)
  (pss_one (ps_for PassesOwn.never rfl (pi_tup (pv 2)) (pg_name (i := 4) sc_Office_keep.nd rfl (Or.inl rfl)) (pss_cons (ps_set (i := 5) sc_Office_keep.nd rfl (Or.inl rfl) pe_dnewT)
  (pss_cons (ps_for PassesOwn.never rfl (pi_tup (pv 4)) (pg_tup rfl (pgs_cons (pg_name (i := 6) sc_Office_keep.nd rfl (Or.inl rfl)) (pgs_cons (pg_name (i := 7) sc_Office_keep.nd rfl (Or.inl rfl)) (pgs_cons (pg_name (i := 8) sc_Office_keep.nd rfl (Or.inl rfl)) (pgs_cons (pg_name (i := 9) sc_Office_keep.nd rfl (Or.inl rfl)) pgs_nil))))) (pss_one (ps_expr (pe_bm PySem.F.plainAttrs_list PySem.F.slot_list_append PySem.F.type_list_append mt_append (pe_dsetdT hu (pv 5) (pe_tup (pa_cons (pv 6) (pa_cons (pv 7) (pa_cons (pv 8) pa_nil)))) (pe_lst pa_nil) ⟨rfl, rfl, rfl, rfl⟩) (pa_cons (pv 9) pa_nil)))))
  (pss_one (ps_expr (pe_bm PySem.F.plainAttrs_list PySem.F.slot_list_append PySem.F.type_list_append mt_append (pe_fld (pv 0) rfl) (pa_cons (pv 5) pa_nil)))))))))))), ?_⟩
    refine ⟨_, rfl, _, rfl, p, C, dx, [], rfl, hp, c, n1, by decide, _, rfl, _, rfl, p, C, dx, _, rfl, upd_same, c, n2, (by show 1 < 1000; decide), _, rfl, _, rfl, p, C, dx, _, rfl, upd_same, c, n3, (by show 2 < 1000; decide), ?_⟩
    rw [upd_upd, upd_upd]
    refine ⟨by decide, fun l hl => ?_⟩
    have npl : p ≠ l := fun z => by rw [← z, upd_same] at hl; cases hl
    have hl0 : H l = none := by rw [upd_ne npl.symm] at hl; exact hl
    refine ⟨_, rfl, p, C, dx, _, rfl, by rw [upd_ne npl, upd_same], c, n4, (by show 3 < 1000; decide), ?_⟩
    -- the heap with the four attributes
    generalize hH1 : upd (upd (upd H p _) l (.lst [])) p _ = H1
    have h1p : H1 p = some (.ins C dx (offF vs (.ref m) vc (.ref l))) := by rw [← hH1]; exact upd_same
    have h1l : H1 l = some (.lst []) := by rw [← hH1, upd_ne npl.symm, upd_same]
    have k1 : Ks (· = p) H H1 := by
      rw [← hH1]
      refine ((Ks.mut (S := (· = p)) .refl rfl (fun xs e => ?_)).mutNew hl0).mut rfl (fun xs e => ?_)
      · rw [hp] at e; cases e
      · rw [upd_ne npl, upd_same] at e; cases e
    have hmH := (Hd.at hm).2
    have hm1 : H1 m = some (.tup ms) := k1.tup _ _ hmH
    have new : ∀ a, H a = none → ¬ S a := fun a e z => hS a z e
    refine ⟨_, rfl, m, rfl, ⟨_, SqT.of hm1⟩, fo_T (R := TT TI (Hd S H)) (fun d σ H' => (∃ o1 o2 o3 o4 o5 o6, σ = [some (.ref p), some vs, some (.ref m), some vc, o1, o2, o3, o4, o5, o6]) ∧ Ks (fun a => a = p) H H' ∧ H' m = some (.tup ms) ∧ H' p = some (.ins C dx (offF vs (.ref m) vc (.ref l))) ∧
        ∃ ds, H' l = some (.lst ds) ∧ Paired (Kept (Hd (fun a => S a ∨ a = l) H')) ds d) pm ⟨⟨_, _, _, _, _, _, rfl⟩, k1, hm1, h1p, [], h1l, .nil⟩ (fun d σ H' p => p.2.2.1) ?_ ?_⟩
    · rintro d x r v σ H2 e ⟨rw, ws, rfl, hrw, prw⟩ ⟨⟨o1, o2, o3, o4, o5, o6, rfl⟩, k2, hm2, hp2, ds, hl2, pd⟩
      have hrw2 : H2 rw = some (.tup ws) := k2.tup _ _ (Hd.at hrw).2
      have fx := f4 x (by rw [e]; simp)
      have lx := plen prw
      -- goals = {}
      intro g hg
      refine ⟨_, rfl, rw, rfl, ⟨_, SqT.of ((Ke.new hg).at hrw2)⟩, fo_T (R := TI (Hd S H)) (fun e σ H' => (∃ o3 o4 o5 o6, σ = [some (.ref p), some vs, some (.ref m), some vc, some (.ref rw), some (.ref g), o3, o4, o5, o6]) ∧ Ke H2 H' ∧
          ∃ kvs, H' g = some (.dT kvs) ∧ GAi H2 H' g kvs e) prw ⟨⟨_, _, _, _, rfl⟩, Ke.new hg, [], upd_same, .nil⟩ (fun d σ H' p => p.2.1.at hrw2) ?_ ?_⟩
      · rintro e' y r' v' σ' H3 ey ⟨b, rfl, hb⟩ ⟨⟨o3, o4, o5, o6, rfl⟩, k3, kvs, hg3, ga⟩
        have hb3 : H3 b = some (.tup (y.map V.int)) := k3.at (k2.tup _ _ (Hd.at hb).2)
        have ly := fx.2 y (by rw [ey]; simp)
        obtain ⟨s', n', k', go, rfl⟩ : ∃ s' n' k' go, y = [s', n', k', go] := by
          match y, ly with
          | [s', n', k', go], _ => exact ⟨_, _, _, _, rfl⟩
        have lk : kvs.length < 1000000 := by have := ga.1; rw [ey] at fx; simp at fx; omega
        refine ⟨b, _, rfl, SqT.of hb3, rfl, _, _, rfl, _, _, rfl, _, _, rfl, _, _, rfl, rfl, ?_⟩
        -- goals.setdefault((slip, answer, mark), []).append(goal)
        refine ⟨_, rfl, g, rfl, .inr ⟨_, .inl hg3⟩, _, rfl, _, rfl, _, rfl, (by show 3 ≤ sizeLine; decide), fun t ht => ⟨(by show 0 ≤ sizeLine; decide), fun li hli => ?_⟩⟩
        have k4 : Ke H3 (upd (upd H3 t (.tup [.int s', .int n', .int k'])) li (.lst [])) := (Ke.new ht).trans (Ke.new hli)
        have hg4 := k4.at hg3
        have nlt : li ≠ t := fun z => by rw [z, upd_same] at hli; cases hli
        have hli3 : H3 li = none := by
          rw [upd_ne nlt] at hli; exact hli
        have hli2 : H2 li = none := k3.free hli3
        have ngl : li ≠ g := (ne_of_none hg3 hli3).symm
        refine ⟨kvs, keyI [s', n', k'], t, hg4, rfl, by rw [upd_ne nlt.symm, upd_same, keyI_kV]; rfl, by rw [sizeLine_eq]; omega, fun v0 hv0 => ?_, fun hn0 => ?_⟩
        · obtain ⟨lo, e1, e2, e3, e4⟩ : ∃ lo, v0 = .ref lo ∧ H2 lo = none ∧ lo ≠ g ∧ H3 lo = some (.lst ((goalsIn e' [s', n', k']).map V.int)) := by
            rcases ga.2.1 [s', n', k'] with ⟨z, _⟩ | ⟨lo, z1, z2, z3, z4⟩
            · rw [hv0] at z; cases z
            · rw [hv0] at z1; cases z1; exact ⟨lo, rfl, z2, z3, z4⟩
          subst e1
          have hlen : (goalsIn e' [s', n', k']).length ≤ e'.length := List.length_filterMap_le _ _
          refine ⟨.inl ⟨rfl, _, SqL.of (k4.at e4)⟩, _, rfl, lo, _, _, rfl, rfl, k4.at e4, by rw [sizeLine_eq, List.length_map]; rw [ey] at fx; simp at fx; omega, ?_⟩
          refine ⟨⟨_, _, _, _, rfl⟩, (k3.trans k4).mutNew e2, kvs, by rw [upd_ne e3.symm]; exact hg4, ga.old hv0 (fun a xs na ha => by rw [upd_ne na]; exact k4.at ha) (by rw [upd_same, List.map_append]; rfl)⟩
        · refine ⟨.inl ⟨rfl, [], SqL.of (by rw [upd_ne ngl, upd_same])⟩, _, rfl, li, [], _, rfl, rfl, by rw [upd_ne ngl, upd_same], by decide, ?_⟩
          refine ⟨⟨_, _, _, _, rfl⟩, ((k3.trans k4).mutNew hg).mutNew hli2, putK kvs (keyI [s', n', k']) (.ref li), by rw [upd_ne ngl.symm, upd_same], ga.new hn0 hli3 hli2 ngl (fun a xs na ng ha => by rw [upd_ne na, upd_ne ng]; exact k4.at ha) upd_same⟩
      · rintro σ' H3 ⟨⟨o3, o4, o5, o6, rfl⟩, k3, kvs, hg3, ga⟩
        -- self.kept_goals.append(goals)
        have npl2 : l ≠ g := ne_of_none hl2 hg
        have lds := plen pd
        have ll : d.length < 1000000 := by rw [e] at lm; simp at lm; omega
        refine ⟨_, rfl, p, C, dx, _, _, rfl, k3.at hp2, c, n4, offF_k _ _ _ _, .inl ⟨rfl, _, SqL.of (k3.at hl2)⟩, _, rfl, l, ds, _, rfl, rfl, k3.at hl2, by rw [sizeLine_eq]; omega, ?_⟩
        have hlp : l ≠ p := npl.symm
        refine ⟨⟨_, _, _, _, _, _, rfl⟩, (k2.trans k3.ks).mutNew hl0, by rw [upd_ne (ne_of (k3.at hm2) (k3.at hl2) (fun z => nomatch z))]; exact k3.at hm2, by rw [upd_ne npl]; exact k3.at hp2, ds ++ [.ref g], upd_same, papp ?_ (.cons ?_ .nil)⟩
        · refine pimp (fun v x q => Kept.sto _ _ v x (Ke.of fun a o q => ?_) q) pd
          obtain ⟨na, qa⟩ := Hd.at q
          exact Hd.get na (by rw [upd_ne (fun z => na (.inr z))]; exact k3.at qa)
        · have fr : ∀ a, H2 a = none → ¬ (S a ∨ a = l) := fun a z q => q.elim (fun q => new a (k2.free z) q) fun q => by rw [q, hl2] at z; cases z
          refine ⟨g, kvs, rfl, Hd.get (fr g hg) (by rw [upd_ne npl2.symm]; exact hg3), ga.1, fun st => (ga.2.1 st).imp id fun ⟨li, e1, e2, e3, e4⟩ => ⟨li, e1, Hd.get (fr li e2) ?_⟩⟩
          rw [upd_ne (fun z => by rw [z, hl2] at e2; cases e2)]
          exact e4
    · rintro σ H2 ⟨⟨o1, o2, o3, o4, o5, o6, rfl⟩, k2, hm2, hp2, ds, hl2, pd⟩
      have kd : Tx (Hd S H) (Hd S H2) := Hd.tx k2.tx
      refine k H2 k2 ⟨dx, vs, .ref m, vc, l, ds, Hd.get sp hp2, TI.stb _ _ _ _ kd hs, ?_, TT.stb TI.stb _ _ _ _ kd hc, Hd.get (new l hl0) hl2, pimp (fun v x q => Kept.sto _ _ v x (Ke.of (Hd.anti fun a z => .inl z)) q) pd⟩
      exact ⟨m, ms, rfl, kd.tup _ _ hm, pimp (fun v x r => TT.stb TI.stb _ _ _ _ kd r) pm⟩
theorem ok_Office_keep : FnOk P w K mg base CX0 1 T.a_Office_keep T.d_Office_keep P_Office_keep (sp_keep K) := ok_keep T.F_Office_keep
theorem ok_RawOffice_keep : FnOk P w K mg base CX0 1 T.a_RawOffice_keep T.d_RawOffice_keep P_Office_keep (sp_keep K) := ok_keep T.F_RawOffice_keep
end
end Fd
set_option Elab.async false
set_option linter.all false
set_option maxRecDepth 100000
set_option maxHeartbeats 4000000
namespace Fd
open PySem PySem.Spec PyProof.Rows L2
structure Good (sz : List Int) (mv : List (List (List Int))) (cl : List (List Int)) : Prop where
  s : Sizes sz
  m : MovesOk sz mv
  c : ClosOk sz mv.length cl
theorem Good.fours {sz : List Int} {mv : List (List (List Int))} {cl : List (List Int)} (g : Good sz mv cl) : Fours mv := fun r hr => ⟨(g.m.2.2 r hr).2.2, fun m hm => by
  obtain ⟨a, b, c, s, n, k, go, _, rfl, _⟩ := (g.m.2.2 r hr).1 m hm
  rfl⟩
/-- __init__ of an office at p -/
def sp_init (C : Addr) (W : List Int → List (List (List Int)) → List (List Int) → Prop) : Sp := fun xs H Q _ => ∃ S p dx vs vm vc sz mv cl, xs = [.ref p, vs, vm, vc] ∧ H p = some (.ins C dx []) ∧ ¬ S p ∧ (∀ a, S a → H a ≠ none) ∧ TI (Hd S H) vs sz ∧ MV (Hd S H) vm mv ∧ CL (Hd S H) vc cl ∧ W sz mv cl ∧
  ∀ H', Ks (· = p) H H' → OffAt C (Hd S H') p sz mv cl → Q .non H'
def Raw (sz : List Int) (mv : List (List (List Int))) (cl : List (List Int)) : Prop := Fours mv ∧ mv.length < 1000000
/-- which part of an office is none -/
def BadP (sz : List Int) (mv : List (List (List Int))) (cl : List (List Int)) (z : Str) : Prop := (¬ Sizes sz ∧ z = "sizes") ∨ (Sizes sz ∧ ¬ MovesOk sz mv ∧ z = "moves") ∨ (Sizes sz ∧ MovesOk sz mv ∧ ¬ ClosOk sz mv.length cl ∧ z = "closings")
/-- __init__ of an office at p, whatever its data -/
def sp_initX (C CB : Addr) : Sp := fun xs H Q E => ∃ S p dx vs vm vc sz mv cl, xs = [.ref p, vs, vm, vc] ∧ H p = some (.ins C dx []) ∧ ¬ S p ∧ (∀ a, S a → H a ≠ none) ∧ TI (Hd S H) vs sz ∧ MV (Hd S H) vm mv ∧ CL (Hd S H) vc cl ∧ sz.length = 3 ∧ mv.length < 1000000 ∧ (Sizes sz → MovesSh sz mv ∧ ClosSh sz mv.length cl) ∧
  (∀ z, BadP sz mv cl z → ∀ d H', Ke H H' → H' d = some (.xd [("part", .str z)]) → E (.ref CB) (some d) H') ∧ (Good sz mv cl → ∀ H', Ks (· = p) H H' → OffAt C (Hd S H') p sz mv cl → Q .non H')
theorem ks_exc {S : Addr → Prop} {H H7 : Hp} {e d : Addr} {o1 o2 o3 o4 : HO} (k : Ks S H H7) (he : H7 e = none) (hd : H7 d = none) (n : d ≠ e) : Ks S H (upd (del (upd (upd (upd H7 e o1) d o2) e o3) e) d o4) := by
  have g : ∀ a o, H7 a = some o → (upd (del (upd (upd (upd H7 e o1) d o2) e o3) e) d o4) a = some o := fun a o h => by
    have a1 : a ≠ d := ne_of_none h hd
    have a2 : a ≠ e := ne_of_none h he
    rw [upd_ne a1, del_ne a2, upd_ne a2, upd_ne a1, upd_ne a2]; exact h
  exact k.trans (Ke.of g).ks
theorem mk_bad {C : Addr} {z : Str} {σ : L2.St} {H : Hp} {k : XK} (h : ∀ d H', Ke H H' → H' d = some (.xd [("part", .str z)]) → k (Value.ref C) (some d) H') : tMkO C (sp_bad C) [] (tCons (tC (.str z)) tNil) σ H k := by
  unfold tMkO
  refine ⟨(by show 1 ≤ 1000; decide), fun ea hea => ?_⟩
  exact ⟨ea, z, rfl, upd_same, fun d hd nd => ⟨rfl, d, [("part", .str z)], upd_same, by rw [upd_ne nd]; exact upd_same, (by rw [upd_ne nd] at hd; exact hd), h d _ (ks_exc .refl hea (by rw [upd_ne nd] at hd; exact hd) nd) upd_same⟩⟩
section
variable {P : Program} {w : World} {K : PySem.W.Frag} {mg : Str → Option Value} {base : Heap} (T : Txt K mg) (Er : Err P K mg) (htop : (P.main.scope.names.lookup ("super" : Str)).isSome = false)
section
include T
theorem ok_RawOffice_init : FnOk P w K mg base CX0 2 T.a_RawOffice_init T.d_RawOffice_init P_RawOffice_init (sp_init T.a_RawOffice Raw) := by
  refine T.F_RawOffice_init.ok sc_RawOffice_init (fun vs H Q E h => ?_) (fun cdv A outer s H vs Q E hr h => ?_)
  · obtain ⟨S, p, dx, vs, vm, vc, sz, mv, cl, rfl, _⟩ := h; rfl
  · obtain ⟨S, p, dx, vs, vm, vc, sz, mv, cl, rfl, hp, sp, hS, hs, hm, hc, ⟨f4, lm⟩, k⟩ := h
    refine ⟨_, (pss_one (ps_expr (pe_meth (pv 0) T.c_RawOffice T.t_RawOffice_keep (ok_RawOffice_keep T) (hr.mono (by decide)) T.b_RawOffice_keep .nil pass0 (pa_cons (pv 1) (pa_cons (pv 2) (pa_cons (pv 3) pa_nil)))))), ?_⟩
    exact ⟨_, rfl, p, dx, [], rfl, hp, rfl, _, rfl, _, rfl, _, rfl, S, T.a_RawOffice, p, dx, vs, vm, vc, sz, mv, cl, rfl, T.ocR, hp, sp, hS, hs, hm, hc, f4, lm, k⟩
end
include T Er htop
theorem ok_Office_init : FnOk P w K mg base (L2.CX P w) 5 T.a_Office_init T.d_Office_init P_Office_init (sp_initX T.a_Office Er.a_BadOffice) := by
  refine T.F_Office_init.okX sc_Office_init (fun vs H Q E h => ?_) (fun cdv A outer s H vs Q E hr h => ?_)
  · obtain ⟨S, p, dx, vs, vm, vc, sz, mv, cl, rfl, _⟩ := h; rfl
  · obtain ⟨S, p, dx, vs, vm, vc, sz, mv, cl, rfl, hp, sp, hS, hs, hm, hc, h3, lmv, sh, kE, k⟩ := h
    have tk : Takes (cxOf (L2.CX P w) P w K mg base N_Office_init "Office.__init__" (defScope s_Office_init) T.a_Office_init cdv A outer s H E) (fun cls d _ H' => E cls d H') := takes_of rfl rfl rfl rfl
    have le : Tx (Hd S H) H := ⟨fun a xs e => (Hd.at e).2⟩
    have hs0 := TI.stb _ _ _ _ le hs
    have hm0 := TT.stb (TT.stb TI.stb) _ _ _ _ le hm
    have hc0 := TT.stb TI.stb _ _ _ _ le hc
    refine ⟨_, (pss_cons (ps_if (pt_not (pt_val (pe_call (ok_are_sizes T) (hr.mono (by decide)) rfl T.g_are_sizes T.k_are_sizes T.b_are_sizes .nil pass0 (pa_cons (pv 1) pa_nil)))) (pss_one (ps_raise rfl tk (pmk_oex (CX := CX0) Er.u_BadOffice.oex Er.i_BadOffice Er.t_BadOffice (ok_BadOffice_init Er htop) (hr.mono (by decide)) Er.b_BadOffice_init .nil pass0 rfl Er.g_BadOffice (pa_cons pe_str pa_nil)))) pss_nil)
  (pss_cons (ps_if (pt_not (pt_val (pe_call (ok_are_moves T) (hr.mono (by decide)) rfl T.g_are_moves T.k_are_moves T.b_are_moves .nil pass0 (pa_cons (pv 1) (pa_cons (pv 2) pa_nil))))) (pss_one (ps_raise rfl tk (pmk_oex (CX := CX0) Er.u_BadOffice.oex Er.i_BadOffice Er.t_BadOffice (ok_BadOffice_init Er htop) (hr.mono (by decide)) Er.b_BadOffice_init .nil pass0 rfl Er.g_BadOffice (pa_cons pe_str pa_nil)))) pss_nil)
  (pss_cons (ps_if (pt_not (pt_val (pe_call (ok_are_closings T) (hr.mono (by decide)) rfl T.g_are_closings T.k_are_closings T.b_are_closings .nil pass0 (pa_cons (pv 1) (pa_cons (pe_callB call_len (by rfl) T.n_len (by decide +kernel) (pa_cons (pv 2) pa_nil)) (pa_cons (pv 3) pa_nil)))))) (pss_one (ps_raise rfl tk (pmk_oex (CX := CX0) Er.u_BadOffice.oex Er.i_BadOffice Er.t_BadOffice (ok_BadOffice_init Er htop) (hr.mono (by decide)) Er.b_BadOffice_init .nil pass0 rfl Er.g_BadOffice (pa_cons pe_str pa_nil)))) pss_nil)
  (pss_one (ps_expr (pe_meth (pv 0) T.c_Office T.t_Office_keep (ok_Office_keep T) (hr.mono (by decide)) T.b_Office_keep .nil pass0 (pa_cons (pv 1) (pa_cons (pv 2) (pa_cons (pv 3) pa_nil))))))))), ?_⟩
    by_cases cs : Sizes sz
    · refine ⟨_, rfl, vs, sz, true, rfl, hs0, h3, ⟨fun _ => cs, fun _ => rfl⟩, fun H1 k1 => ⟨true, rfl, iteF ?_⟩⟩
      obtain ⟨shm, shc⟩ := sh cs
      have hs1 := TI.stb _ _ _ _ k1.tx hs0
      have hm1 := TT.stb (TT.stb TI.stb) _ _ _ _ k1.tx hm0
      by_cases cm : MovesOk sz mv
      · refine ⟨_, rfl, _, rfl, vs, vm, sz, mv, true, rfl, hs1, hm1, shm, lmv, ⟨fun _ => cm, fun _ => rfl⟩, fun H2 k2 => ⟨true, rfl, iteF ?_⟩⟩
        have k12 := k1.trans k2
        obtain ⟨m, ms, rfl, hmm, pm⟩ := TT.stb (TT.stb TI.stb) _ _ _ _ k2.tx hm1
        have hcx := TT.stb TI.stb _ _ _ _ k12.tx hc0
        by_cases cc : ClosOk sz mv.length cl
        · refine ⟨_, rfl, _, rfl, .ref m, ms.length, rfl, .inr ⟨_, SqT.of hmm, rfl⟩, _, rfl, vs, _, vc, sz, cl, true, rfl, TI.stb _ _ _ _ k2.tx hs1, hcx, h3, (by rw [plen pm]; exact shc), (by rw [plen pm]; exact ⟨fun _ => cc, fun _ => rfl⟩), fun H3 k3 => ⟨true, rfl, iteF ?_⟩⟩
          have k13 : Ke H H3 := k12.trans k3
          have t3 : Tx (Hd S H) (Hd S H3) := Hd.tx k13.tx
          have g : Good sz mv cl := ⟨cs, cm, cc⟩
          refine ⟨_, rfl, p, dx, [], rfl, k13.at hp, rfl, _, rfl, _, rfl, _, rfl, S, T.a_Office, p, dx, vs, .ref m, vc, sz, mv, cl, rfl, T.oc, k13.at hp, sp, fun a z => k13.there a (hS a z), TI.stb _ _ _ _ t3 hs, TT.stb (TT.stb TI.stb) _ _ _ _ t3 hm, TT.stb TI.stb _ _ _ _ t3 hc, g.fours, by have := g.m.2.1; omega, fun H4 k4 o => k g H4 (k13.ks.trans k4) o⟩
        · refine ⟨_, rfl, _, rfl, .ref m, ms.length, rfl, .inr ⟨_, SqT.of hmm, rfl⟩, _, rfl, vs, _, vc, sz, cl, false, rfl, TI.stb _ _ _ _ k2.tx hs1, hcx, h3, (by rw [plen pm]; exact shc), (by rw [plen pm]; exact ⟨fun z => (by cases z), fun z => absurd z cc⟩), fun H3 k3 => ⟨false, rfl, iteT ?_⟩⟩
          have k13 : Ke H H3 := k12.trans k3
          exact mk_bad fun d H' kk hd => kE _ (.inr (.inr ⟨cs, cm, cc, rfl⟩)) d H' (k13.trans kk) hd
      · refine ⟨_, rfl, _, rfl, vs, vm, sz, mv, false, rfl, hs1, hm1, shm, lmv, ⟨fun z => (by cases z), fun z => absurd z cm⟩, fun H2 k2 => ⟨false, rfl, iteT ?_⟩⟩
        exact mk_bad fun d H' kk hd => kE _ (.inr (.inl ⟨cs, cm, rfl⟩)) d H' ((k1.trans k2).trans kk) hd
    · refine ⟨_, rfl, vs, sz, false, rfl, hs0, h3, ⟨fun z => (by cases z), fun z => absurd z cs⟩, fun H1 k1 => ⟨false, rfl, iteT ?_⟩⟩
      exact mk_bad fun d H' kk hd => kE _ (.inl ⟨cs, rfl⟩) d H' (k1.trans kk) hd
end
end Fd
set_option Elab.async false
set_option linter.all false
set_option maxRecDepth 100000
set_option maxHeartbeats 4000000
namespace Fd
open PySem PySem.Spec PyProof.Rows L2
/-- an office's data that any reader may take -/
structure Wf (o : Ofc) : Prop where
  sz : ∃ a b c, o.sz = [a, b, c] ∧ (1 ≤ a ∧ a ≤ 63) ∧ (1 ≤ b ∧ b ≤ 63) ∧ 1 ≤ c ∧ c ≤ 63
  n1 : 1 ≤ o.mv.length
  n2 : o.mv.length ≤ 63
  cl : o.cl.length = o.mv.length
  mv : ∀ r ∈ o.mv, r.length < 1000000 ∧ ∀ m ∈ r, MoveOk o.sz o.mv.length m
  ck : ∀ r ∈ o.cl, r.length < 1000000 ∧ ∀ k ∈ r, 0 ≤ k ∧ k < 63
abbrev OfAt (C : Addr) (H : Hp) (p : Addr) (o : Ofc) : Prop := OffAt C H p o.sz o.mv o.cl
theorem goalsIn_ok {o : Ofc} (w : Wf o) {r : List (List Int)} (hr : r ∈ o.mv) {st : List Int} : (goalsIn r st).length < 1000000 ∧ ∀ g ∈ goalsIn r st, 0 ≤ g ∧ g < o.mv.length := by
  obtain ⟨h1, h2⟩ := w.mv r hr
  refine ⟨Nat.lt_of_le_of_lt (List.length_filterMap_le _ _) h1, fun g hg => ?_⟩
  obtain ⟨m, hm, e⟩ := List.mem_filterMap.mp hg
  obtain ⟨a, b, c, s, n, k, g', _, rfl, _, _, _, h3, h4⟩ := h2 m hm
  by_cases q : ([s, n, k, g'] : List Int).take 3 = st
  · rw [if_pos q] at e
    have e' : g' = g := by simpa using e
    subst e'
    omega
  · rw [if_neg q] at e; cases e
/-- a dict of ints as a set -/
def DS (H : Hp) (f : Addr) (xs : List Int) : Prop := ∃ kvs ks, H f = some (.dK kvs) ∧ kvs.map (·.1) = keyI ks ∧ ks.Nodup ∧ ∀ x, x ∈ ks ↔ x ∈ xs
theorem DS.put {H : Hp} {f : Addr} {xs : List Int} {kvs : List (Key × V)} {ks : List Int} {g : Int} {v : V} (e : kvs.map (·.1) = keyI ks) (hn : ks.Nodup) (hm : ∀ x, x ∈ ks ↔ x ∈ xs) : DS (upd H f (.dK (putK kvs (.inl g) v))) f (xs ++ [g]) :=
  ⟨_, addk ks g, upd_same, keys_put Sum.inl (fun _ _ z => Sum.inl.inj z) e, addk_nodup hn, fun x => by rw [mem_addk, hm]; simp⟩
/-- loops over the heap alone -/
theorem lw_range {lo : Int} {n : Nat} {H0 : Hp} {Qd : Hp → Prop} {B : V → Hp → (Hp → Prop) → Prop} (Pv : Nat → Hp → Prop) (h0 : Pv 0 H0) (hs : ∀ i H, i < n → Pv i H → B (.int (lo + i)) H (Pv (i + 1))) (hd : ∀ H, Pv n H → Qd H) :
    ∃ W : Nat → Nat → Hp → Prop, (∃ m, W 0 m H0) ∧ ∀ i m H, W i m H → ((Itr lo n).stop i H ∧ Qd H) ∨ ((Itr lo n).go i H ∧ ∃ Nx : Hp → Prop, (∀ H', Nx H' → ∃ m', m' < m ∧ W (i + 1) m' H') ∧ ∀ x H', (Itr lo n).yld i H x H' → B x H' Nx) := by
  refine ⟨fun i m H => m = n - i ∧ i ≤ n ∧ Pv i H, ⟨n, by simp, Nat.zero_le _, h0⟩, ?_⟩
  rintro i m H ⟨rfl, hi, p⟩
  by_cases hlt : i < n
  · refine .inr ⟨hlt, Pv (i + 1), fun H' p' => ⟨n - (i + 1), by omega, rfl, hlt, p'⟩, fun x H' y => ?_⟩
    obtain ⟨e, y⟩ := y
    subst e y
    exact hs i _ hlt p
  · have e : i = n := by omega
    subst e
    exact .inl ⟨Nat.le_refl _, hd H p⟩
theorem lw_L {K : PySem.W.Frag} {α : Type} {R : V → α → Prop} {a : Addr} {vs : List V} {xs : List α} {H0 : Hp} {Qd : Hp → Prop} {B : V → Hp → (Hp → Prop) → Prop} (Pv : List α → Hp → Prop) (hp : Paired R vs xs) (h0 : Pv [] H0) (hk : ∀ d H, Pv d H → H a = some (.lst vs))
    (hs : ∀ d x r v H, xs = d ++ x :: r → R v x → Pv d H → B v H (Pv (d ++ [x]))) (hd : ∀ H, Pv xs H → Qd H) :
    ∃ W : Nat → Nat → Hp → Prop, (∃ m, W 0 m H0) ∧ ∀ i m H, W i m H → ((Itl K a).stop i H ∧ Qd H) ∨ ((Itl K a).go i H ∧ ∃ Nx : Hp → Prop, (∀ H', Nx H' → ∃ m', m' < m ∧ W (i + 1) m' H') ∧ ∀ x H', (Itl K a).yld i H x H' → B x H' Nx) := by
  have el := plen hp
  refine ⟨fun i m H => m = vs.length - i ∧ i ≤ vs.length ∧ Pv (xs.take i) H, ⟨vs.length, by simp, Nat.zero_le _, h0⟩, ?_⟩
  rintro i m H ⟨rfl, hi, p⟩
  have q := hk _ _ p
  by_cases hlt : i < vs.length
  · refine .inr ⟨⟨vs, vs[i], SqL.of q, by simp [hlt]⟩, Pv (xs.take (i + 1)), fun H' p' => ⟨vs.length - (i + 1), by omega, rfl, hlt, p'⟩, fun x H' y => ?_⟩
    obtain ⟨e, y⟩ := y
    subst e
    obtain ⟨z, e2, r⟩ := pgetL hp (y vs (SqL.of q))
    have e3 : xs[i]'(by omega) = z := (List.getElem?_eq_some_iff.mp e2).2
    have e4 : xs.take (i + 1) = xs.take i ++ [z] := by rw [List.take_succ, e2]; rfl
    rw [e4]
    exact hs (xs.take i) z (xs.drop (i + 1)) x _ (by rw [← e3, List.getElem_cons_drop, List.take_append_drop]) r p
  · have e : i = vs.length := by omega
    subst e
    rw [el, List.take_length] at p
    exact .inl ⟨⟨vs, SqL.of q, Nat.le_refl _⟩, hd H p⟩
theorem lw_T {K : PySem.W.Frag} {α : Type} {R : V → α → Prop} {a : Addr} {vs : List V} {xs : List α} {H0 : Hp} {Qd : Hp → Prop} {B : V → Hp → (Hp → Prop) → Prop} (Pv : List α → Hp → Prop) (hp : Paired R vs xs) (h0 : Pv [] H0) (hk : ∀ d H, Pv d H → H a = some (.tup vs))
    (hs : ∀ d x r v H, xs = d ++ x :: r → R v x → Pv d H → B v H (Pv (d ++ [x]))) (hd : ∀ H, Pv xs H → Qd H) :
    ∃ W : Nat → Nat → Hp → Prop, (∃ m, W 0 m H0) ∧ ∀ i m H, W i m H → ((Itt K a).stop i H ∧ Qd H) ∨ ((Itt K a).go i H ∧ ∃ Nx : Hp → Prop, (∀ H', Nx H' → ∃ m', m' < m ∧ W (i + 1) m' H') ∧ ∀ x H', (Itt K a).yld i H x H' → B x H' Nx) := by
  have el := plen hp
  refine ⟨fun i m H => m = vs.length - i ∧ i ≤ vs.length ∧ Pv (xs.take i) H, ⟨vs.length, by simp, Nat.zero_le _, h0⟩, ?_⟩
  rintro i m H ⟨rfl, hi, p⟩
  have q := hk _ _ p
  by_cases hlt : i < vs.length
  · refine .inr ⟨⟨vs, vs[i], SqT.of q, by simp [hlt]⟩, Pv (xs.take (i + 1)), fun H' p' => ⟨vs.length - (i + 1), by omega, rfl, hlt, p'⟩, fun x H' y => ?_⟩
    obtain ⟨e, y⟩ := y
    subst e
    obtain ⟨z, e2, r⟩ := pgetL hp (y vs (SqT.of q))
    have e3 : xs[i]'(by omega) = z := (List.getElem?_eq_some_iff.mp e2).2
    have e4 : xs.take (i + 1) = xs.take i ++ [z] := by rw [List.take_succ, e2]; rfl
    rw [e4]
    exact hs (xs.take i) z (xs.drop (i + 1)) x _ (by rw [← e3, List.getElem_cons_drop, List.take_append_drop]) r p
  · have e : i = vs.length := by omega
    subst e
    rw [el, List.take_length] at p
    exact .inl ⟨⟨vs, SqT.of q, Nat.le_refl _⟩, hd H p⟩
theorem ran_flat {α : Type} (n : Int) (f : Int → List α) (i : Nat) : (((List.range (i + 1)).map Int.ofNat).flatMap f) = ((List.range i).map Int.ofNat).flatMap f ++ f i := by
  rw [List.range_succ, List.map_append, List.flatMap_append]
  simp
theorem snoc_tx {H H' : Hp} {D : Addr} {xs : List V} {ws : List V} (k : Tx H H') (h : H D = some (.lst xs)) : Tx H (upd H' D (.lst ws)) := ⟨fun b ys e => by rw [upd_ne (fun z => by subst z; rw [h] at e; cases e)]; exact k.tup b ys e⟩
theorem put_tx {H : Hp} {d : Addr} {o o' : HO} (h : H d = some o) (n : ∀ xs, o ≠ .tup xs) : Tx H (upd H d o') := ⟨fun a xs e => by
  rw [upd_ne (ne_of e h (fun z => n xs z.symm))]; exact e⟩
theorem Ks.comp {S S' U : Addr → Prop} {H H1 H2 : Hp} (x : Ks S H H1) (y : Ks S' H1 H2) (m : ∀ a, S a → U a) (n : ∀ a, S' a → U a ∨ H a = none) : Ks U H H2 :=
  ⟨fun a o u h => y.keep a o (fun z => (n a z).elim u fun q => by rw [q] at h; cases h) (x.keep a o (fun z => u (m a z)) h), fun a xs h => y.tup a xs (x.tup a xs h), fun a h => y.there a (x.there a h)⟩
theorem pimp' {α β : Type} {F G : α → β → Prop} : ∀ {l : List α} {m : List β}, (∀ a b, b ∈ m → F a b → G a b) → Paired F l m → Paired G l m
  | _, _, _, .nil => .nil
  | _, _, f, .cons h t => .cons (f _ _ (by simp) h) (pimp' (fun a b hb => f a b (by simp [hb])) t)
end Fd
set_option Elab.async false
set_option linter.all false
set_option maxRecDepth 100000
set_option maxHeartbeats 4000000
/-! Sorted lists of tuples, of pairs of tuples, of ints. -/
namespace Fd
open PySem PySem.Spec PyProof.Rows L2 PySem.W
def encP (x : List Int × List Int) : PyData := .tuple [tI x.1, tI x.2]
noncomputable def sortT (bs : List (List Int)) : List (List Int) := bs.mergeSort (dataLe false tI)
noncomputable def sortP (bs : List (List Int × List Int)) : List (List Int × List Int) := bs.mergeSort (dataLe false encP)
noncomputable def sortI (bs : List Int) : List Int := bs.mergeSort (dataLe false PyData.int)
theorem le_tI : dataLe false tI = fun p q => decide (p ≤ q) := by
  have h := dataLe_rows (β := List Int) id
  funext p q
  exact congrFun (congrFun h p) q
theorem le_int : dataLe false PyData.int = fun p q => decide (p ≤ q) := dataLe_int (β := Int) id
theorem mem_sortT {bs : List (List Int)} {x : List Int} : x ∈ sortT bs ↔ x ∈ bs := (List.mergeSort_perm bs _).mem_iff
theorem mem_sortP {bs : List (List Int × List Int)} {x : List Int × List Int} : x ∈ sortP bs ↔ x ∈ bs := (List.mergeSort_perm bs _).mem_iff
theorem mem_sortI {bs : List Int} {x : Int} : x ∈ sortI bs ↔ x ∈ bs := (List.mergeSort_perm bs _).mem_iff
theorem len_sortT {bs : List (List Int)} : (sortT bs).length = bs.length := (List.mergeSort_perm bs _).length_eq
theorem len_sortP {bs : List (List Int × List Int)} : (sortP bs).length = bs.length := (List.mergeSort_perm bs _).length_eq
theorem len_sortI {bs : List Int} : (sortI bs).length = bs.length := (List.mergeSort_perm bs _).length_eq
theorem sorted_sortT (bs : List (List Int)) : (sortT bs).Pairwise (· ≤ ·) := by
  unfold sortT
  rw [le_tI]
  have h := List.pairwise_mergeSort (le := fun (p q : List Int) => decide (p ≤ q)) (fun a b c h1 h2 => by
    have h1' : a ≤ b := of_decide_eq_true h1
    have h2' : b ≤ c := of_decide_eq_true h2
    exact decide_eq_true (List.le_trans h1' h2')) (fun a b => by
    rcases List.le_total a b with h | h
    · simp [h]
    · simp [h]) bs
  exact h.imp fun q => of_decide_eq_true q
/-- without doubles the order is strict -/
theorem strict_sortT {bs : List (List Int)} (h : bs.Nodup) : (sortT bs).Pairwise (· < ·) := by
  have n : (sortT bs).Nodup := (List.mergeSort_perm bs _).nodup_iff.mpr h
  refine ((sorted_sortT bs).and n).imp fun {a b} q => ?_
  rcases List.le_iff_lt_or_eq.mp q.1 with z | z
  · exact z
  · exact absurd z q.2
theorem ok_T {bs : List (List Int)} (h : ∀ b ∈ bs, b ≠ []) : SortOk tI bs where
  al := AllAlike.of fun b b' => by
    show alike (.tuple (b.map .int)) (.tuple (b'.map .int)) = true
    rw [alike]; exact alike_ints b b'
  so := .inl fun d hd => by
    obtain ⟨b, hb, rfl⟩ := List.mem_map.mp hd
    match b, h b hb with
    | x :: r, _ => exact ⟨_, _, rfl⟩
  dp := fun b _ => by
    show PyData.depth (.tuple (b.map .int)) ≤ 60
    rw [PyData.depth, depth_ints]; decide
theorem ok_I {bs : List Int} : SortOk PyData.int bs where
  al := AllAlike.of fun b b' => by simp [alike]
  so := Sortable.others fun b => ⟨(fun z => nomatch z), (fun _ z => nomatch z)⟩
  dp := fun b _ => by simp [PyData.depth]
theorem ok_P {bs : List (List Int × List Int)} : SortOk encP bs where
  al := AllAlike.of fun b b' => by
    show alike (.tuple [.tuple (b.1.map .int), .tuple (b.2.map .int)]) (.tuple [.tuple (b'.1.map .int), .tuple (b'.2.map .int)]) = true
    rw [alike, alikeAll, alikeAll, alike, alike, alike_ints, alike_ints]
    simp [alikeAll]
  so := Sortable.tuples fun b => ⟨_, _, rfl⟩
  dp := fun b _ => by
    show PyData.depth (.tuple [.tuple (b.1.map .int), .tuple (b.2.map .int)]) ≤ 60
    simp [PyData.depth, PyData.depthAll, depth_ints]
end Fd
set_option Elab.async false
set_option linter.all false
set_option maxRecDepth 100000
set_option maxHeartbeats 4000000
/-! What the chain computes, in plain lists. -/
namespace Fd
def slipsIn (row : List (List Int)) (s : Int) : List (List Int) := row.filter fun m => decide (m[0]? = some s)
theorem slipsIn_snoc (row : List (List Int)) (m : List Int) (s0 s : Int) (h : m[0]? = some s0) : slipsIn (row ++ [m]) s = if s0 = s then slipsIn row s ++ [m] else slipsIn row s := by
  unfold slipsIn
  rw [List.filter_append]
  by_cases c : s0 = s
  · rw [if_pos c]; simp [h, c]
  · rw [if_neg c]; simp [h, c]
/-- the joint moves of two standings -/
def jointM (o1 o2 : Ofc) (q1 q2 : Int) : List (List Int × List Int) := (at0 o1.mv q1).flatMap fun m => (slipsIn (at0 o2.mv q2) (m.getD 1 0)).map fun m' =>
  ([m.getD 0 0, m.getD 1 0 * o2.sz.getD 1 0 + m'.getD 1 0, m.getD 2 0 * o2.sz.getD 2 0 + m'.getD 2 0], [m.getD 3 0, m'.getD 3 0])
def jointL (o1 o2 : Ofc) (q1 q2 : Int) : List Int := (at0 o1.cl q1).flatMap fun k => (at0 o2.cl q2).map fun k' => k * o2.sz.getD 2 0 + k'

/-- the chain while it is made: the pairs met, the rows, the closings -/
structure ChS where
  ps : List (List Int)
  mv : List (List (List Int))
  cl : List (List Int)
def pairsC (ps : List (List Int)) (js : List (List Int × List Int)) : List (List Int) := js.foldl (fun ps x => addk ps x.2) ps
noncomputable def rowC (ps : List (List Int)) (js : List (List Int × List Int)) : List (List Int) := js.map fun x => x.1 ++ [((ps.idxOf x.2 : Nat) : Int)]
noncomputable def jsC (o1 o2 : Ofc) (q : List Int) : List (List Int × List Int) := sortP (jointM o1 o2 (q.getD 0 0) (q.getD 1 0))
noncomputable def stepC (o1 o2 : Ofc) (S : ChS) : ChS :=
  let q := S.ps.getD S.mv.length []
  let ps := pairsC S.ps (jsC o1 o2 q)
  ⟨ps, S.mv ++ [sortT (rowC ps (jsC o1 o2 q))], S.cl ++ [sortI (jointL o1 o2 (q.getD 0 0) (q.getD 1 0))]⟩
noncomputable def runC (o1 o2 : Ofc) : Nat → ChS → ChS
  | 0, S => S
  | n + 1, S => if S.mv.length < S.ps.length then runC o1 o2 n (stepC o1 o2 S) else S
def S0 : ChS := ⟨[[0, 0]], [], []⟩
noncomputable def endC (o1 o2 : Ofc) : ChS := runC o1 o2 (o1.mv.length * o2.mv.length) S0
noncomputable def chainM (o1 o2 : Ofc) : Ofc := ⟨[o1.sz.getD 0 0, o1.sz.getD 1 0 * o2.sz.getD 1 0, o1.sz.getD 2 0 * o2.sz.getD 2 0], (endC o1 o2).mv, (endC o1 o2).cl⟩
/-- goals within -/
def GoalsOk (o : Ofc) : Prop := ∀ r ∈ o.mv, ∀ m ∈ r, 0 ≤ m.getD 3 0 ∧ m.getD 3 0 < o.mv.length
def PairOk (o1 o2 : Ofc) (q : List Int) : Prop := ∃ a b, q = [a, b] ∧ (0 ≤ a ∧ a < o1.mv.length) ∧ 0 ≤ b ∧ b < o2.mv.length
theorem at0_mem {α : Type} {xs : List (List α)} {i : Int} {x : α} (h : x ∈ at0 xs i) : ∃ r ∈ xs, x ∈ r := by
  unfold at0 at h
  cases e : xs[i.toNat]? with
  | none => rw [e] at h; cases h
  | some r => rw [e] at h; exact ⟨r, List.mem_of_getElem? e, h⟩
theorem jsC_ok {o1 o2 : Ofc} (g1 : GoalsOk o1) (g2 : GoalsOk o2) {q : List Int} : ∀ x ∈ jsC o1 o2 q, PairOk o1 o2 x.2 := fun x hx => by
  obtain ⟨m, hm, hx⟩ := List.mem_flatMap.mp (mem_sortP.mp hx)
  obtain ⟨m', hm', rfl⟩ := List.mem_map.mp hx
  obtain ⟨r, hr, hm⟩ := at0_mem hm
  obtain ⟨r', hr', hm'⟩ := at0_mem (List.mem_filter.mp hm').1
  exact ⟨_, _, rfl, g1 r hr m hm, g2 r' hr' m' hm'⟩
theorem pairsC_append (ps : List (List Int)) (a b : List (List Int × List Int)) : pairsC ps (a ++ b) = pairsC (pairsC ps a) b := List.foldl_append
theorem pairsC_pre : ∀ (b : List (List Int × List Int)) (ps : List (List Int)), ∃ r, pairsC ps b = ps ++ r
  | [], ps => ⟨[], by simp [pairsC]⟩
  | x :: b, ps => by
    obtain ⟨r, e⟩ := pairsC_pre b (addk ps x.2)
    refine ⟨(if x.2 ∈ ps then [] else [x.2]) ++ r, ?_⟩
    show pairsC (addk ps x.2) b = _
    rw [e]
    unfold addk
    split
    · simp
    · simp
theorem mem_pairsC : ∀ {b : List (List Int × List Int)} {ps : List (List Int)} {g : List Int}, g ∈ pairsC ps b ↔ g ∈ ps ∨ ∃ x ∈ b, x.2 = g
  | [], ps, g => by simp [pairsC]
  | x :: b, ps, g => by
    show g ∈ pairsC (addk ps x.2) b ↔ _
    rw [mem_pairsC, mem_addk]
    constructor
    · rintro ((h | h) | ⟨y, hy, e⟩)
      · exact .inl h
      · exact .inr ⟨x, by simp, h.symm⟩
      · exact .inr ⟨y, by simp [hy], e⟩
    · rintro (h | ⟨y, hy, e⟩)
      · exact .inl (.inl h)
      · rcases List.mem_cons.mp hy with z | z
        · exact .inl (.inr (by rw [← e, z]))
        · exact .inr ⟨y, z, e⟩
theorem nodup_pairsC : ∀ {b : List (List Int × List Int)} {ps : List (List Int)}, ps.Nodup → (pairsC ps b).Nodup
  | [], _, h => h
  | x :: b, ps, h => nodup_pairsC (b := b) (addk_nodup h)
theorem idx_pre {ps : List (List Int)} {b : List (List Int × List Int)} {g : List Int} (h : g ∈ ps) : (pairsC ps b).idxOf g = ps.idxOf g := by
  obtain ⟨r, e⟩ := pairsC_pre b ps
  rw [e, List.idxOf_append, if_pos h]
/-- what holds of the chain while it is made -/
structure ChOk (o1 o2 : Ofc) (S : ChS) : Prop where
  nd : S.ps.Nodup
  ok : ∀ q ∈ S.ps, PairOk o1 o2 q
  le : S.mv.length ≤ S.ps.length
  cl : S.cl.length = S.mv.length
  rw : ∀ r ∈ S.mv, r.length < 1000000 ∧ ∀ m ∈ r, ∃ q1 q2 x, x ∈ jointM o1 o2 q1 q2 ∧ x.2 ∈ S.ps ∧ m = x.1 ++ [((S.ps.idxOf x.2 : Nat) : Int)]
  ck : ∀ r ∈ S.cl, r.length < 1000000 ∧ ∀ k ∈ r, ∃ q1 q2, k ∈ jointL o1 o2 q1 q2
theorem jointM_three {o1 o2 : Ofc} {q1 q2 : Int} {x : List Int × List Int} (hx : x ∈ jointM o1 o2 q1 q2) : x.1.length = 3 := by
  obtain ⟨m, _, hx⟩ := List.mem_flatMap.mp hx
  obtain ⟨m', _, rfl⟩ := List.mem_map.mp hx
  rfl
theorem ChOk.four {o1 o2 : Ofc} {S : ChS} (x : ChOk o1 o2 S) : ∀ r ∈ S.mv, r.length < 1000000 ∧ ∀ m ∈ r, m.length = 4 := fun r hr => ⟨(x.rw r hr).1, fun m hm => by
  obtain ⟨q1, q2, y, hy, _, rfl⟩ := (x.rw r hr).2 m hm
  rw [List.length_append, jointM_three hy]; rfl⟩
theorem pairs_le {o1 o2 : Ofc} {ps : List (List Int)} (nd : ps.Nodup) (ok : ∀ q ∈ ps, PairOk o1 o2 q) : ps.length ≤ o1.mv.length * o2.mv.length := by
  have h := len_sub (b := (ran o1.mv.length).flatMap fun a => (ran o2.mv.length).map fun b => [a, b]) nd fun q hq => by
    obtain ⟨a, b, rfl, ha, hb⟩ := ok q hq
    exact List.mem_flatMap.mpr ⟨a, mem_ran.mpr ha, List.mem_map.mpr ⟨b, mem_ran.mpr hb, rfl⟩⟩
  refine Nat.le_trans h (Nat.le_of_eq ?_)
  have lr : ∀ n : Nat, (ran n).length = n := fun n => by unfold ran; simp
  rw [List.length_flatMap]
  have : ((ran o1.mv.length).map fun a => ((ran o2.mv.length).map fun b => [a, b]).length) = (ran o1.mv.length).map fun _ => o2.mv.length := by
    apply List.map_congr_left
    intro a _
    rw [List.length_map, lr]
  rw [this, List.map_const', List.sum_replicate_nat, lr]
theorem ChOk.step {o1 o2 : Ofc} (g1 : GoalsOk o1) (g2 : GoalsOk o2) (hs : ∀ q1 q2, (jointM o1 o2 q1 q2).length < 1000000) (hl : ∀ q1 q2, (jointL o1 o2 q1 q2).length < 1000000) {S : ChS} (x : ChOk o1 o2 S) (h : S.mv.length < S.ps.length) : ChOk o1 o2 (stepC o1 o2 S) where
  nd := nodup_pairsC x.nd
  ok := fun q hq => by
    rcases mem_pairsC.mp hq with z | ⟨y, hy, rfl⟩
    · exact x.ok q z
    · exact jsC_ok g1 g2 y hy
  le := by
    obtain ⟨r, e⟩ := pairsC_pre (jsC o1 o2 (S.ps.getD S.mv.length [])) S.ps
    show (S.mv ++ [_]).length ≤ (pairsC S.ps _).length
    rw [e]; simp; omega
  cl := by show (S.cl ++ [_]).length = (S.mv ++ [_]).length; simp [x.cl]
  rw := fun r hr => by
    rcases List.mem_append.mp hr with z | z
    · refine ⟨(x.rw r z).1, fun m hm => ?_⟩
      obtain ⟨q1, q2, y, hy, hp, e⟩ := (x.rw r z).2 m hm
      exact ⟨q1, q2, y, hy, mem_pairsC.mpr (.inl hp), by rw [e]; show _ = y.1 ++ [(((pairsC S.ps _).idxOf y.2 : Nat) : Int)]; rw [idx_pre hp]⟩
    · rw [List.mem_singleton.mp z]
      refine ⟨by rw [len_sortT]; unfold rowC jsC; rw [List.length_map, len_sortP]; exact hs _ _, fun m hm => ?_⟩
      obtain ⟨y, hy, rfl⟩ := List.mem_map.mp (mem_sortT.mp hm)
      exact ⟨_, _, y, mem_sortP.mp hy, mem_pairsC.mpr (.inr ⟨y, hy, rfl⟩), rfl⟩
  ck := fun r hr => by
    rcases List.mem_append.mp hr with z | z
    · exact x.ck r z
    · rw [List.mem_singleton.mp z]
      exact ⟨by rw [len_sortI]; exact hl _ _, fun k hk => ⟨_, _, mem_sortI.mp hk⟩⟩
theorem ChOk.init {o1 o2 : Ofc} (h1 : 1 ≤ o1.mv.length) (h2 : 1 ≤ o2.mv.length) : ChOk o1 o2 S0 := ⟨by simp [S0], fun q hq => by
  have e : q = [0, 0] := by simpa [S0] using hq
  exact ⟨0, 0, e, by omega, by omega⟩, by simp [S0], rfl, (fun r hr => nomatch hr), (fun r hr => nomatch hr)⟩
theorem runC_done {o1 o2 : Ofc} {S : ChS} (h : ¬ S.mv.length < S.ps.length) : ∀ n, runC o1 o2 n S = S
  | 0 => rfl
  | n + 1 => by unfold runC; rw [if_neg h]
theorem runC_step {o1 o2 : Ofc} {S : ChS} (h : S.mv.length < S.ps.length) {n : Nat} (hn : 0 < n) : runC o1 o2 n S = runC o1 o2 (n - 1) (stepC o1 o2 S) := by
  match n, hn with
  | n + 1, _ =>
    show (if _ then _ else _) = _
    rw [if_pos h]; rfl
end Fd
set_option Elab.async false
set_option linter.all false
set_option maxRecDepth 100000
set_option maxHeartbeats 4000000
namespace Fd
open PySem PySem.Spec PyProof.Rows L2
/-- the moves of a row, by slips -/
def ByS (H : Hp) (d : Addr) (row : List (List Int)) : Prop := ∃ kvs, H d = some (.dK kvs) ∧ ∀ s : Int, (valV kvs (Sum.inl s : Key) = none ∧ slipsIn row s = []) ∨ ∃ li ws, valV kvs (Sum.inl s : Key) = some (.ref li) ∧ H li = some (.lst ws) ∧ Paired (TI H) ws (slipsIn row s)
theorem ByS.ke {H H' : Hp} {d : Addr} {row : List (List Int)} (x : ByS H d row) (k : Ke H H') : ByS H' d row := by
  obtain ⟨kvs, h, f⟩ := x
  exact ⟨kvs, k.at h, fun s => (f s).imp id fun ⟨li, ws, e1, e2, e3⟩ => ⟨li, ws, e1, k.at e2, pimp (fun v x r => TI.stb _ _ v x k.tx r) e3⟩⟩
def BySi (H1 H : Hp) (g : Addr) (kvs : List (Key × V)) (row : List (List Int)) : Prop := kvs.length ≤ row.length ∧
  (∀ s : Int, (valV kvs (Sum.inl s : Key) = none ∧ slipsIn row s = []) ∨ ∃ li ws, valV kvs (Sum.inl s : Key) = some (.ref li) ∧ H1 li = none ∧ li ≠ g ∧ H li = some (.lst ws) ∧ Paired (TI H) ws (slipsIn row s)) ∧
  ∀ s s' li, valV kvs (Sum.inl s : Key) = some (.ref li) → valV kvs (Sum.inl s' : Key) = some (.ref li) → s = s'
theorem BySi.old {H1 H H2 : Hp} {g li : Addr} {kvs : List (Key × V)} {row : List (List Int)} {m : List Int} {s0 : Int} {v : V} {ws : List V} (x : BySi H1 H g kvs row) (hm : m[0]? = some s0) (h : valV kvs (Sum.inl s0 : Key) = some (.ref li)) (tx : Tx H H2) (hk : ∀ a xs, a ≠ li → H a = some (.lst xs) → H2 a = some (.lst xs))
    (hw : H li = some (.lst ws)) (hv : TI H2 v m) (h2 : H2 li = some (.lst (ws ++ [v]))) : BySi H1 H2 g kvs (row ++ [m]) := by
  obtain ⟨x1, x2, x3⟩ := x
  refine ⟨by simp; omega, fun s => ?_, x3⟩
  rw [slipsIn_snoc row m s0 s hm]
  by_cases c : s0 = s
  · subst c
    rcases x2 s0 with ⟨z, _⟩ | ⟨l', ws', h1, h3, h4, h5, h6⟩
    · rw [z] at h; cases h
    · rw [h1] at h; cases h
      rw [hw] at h5; cases h5
      exact .inr ⟨li, ws ++ [v], h1, h3, h4, h2, by rw [if_pos rfl]; exact papp (pimp (fun v x r => TI.stb _ _ v x tx r) h6) (.cons hv .nil)⟩
  · rw [if_neg c]
    rcases x2 s with z | ⟨l', ws', h1, h3, h4, h5, h6⟩
    · exact .inl z
    · refine .inr ⟨l', ws', h1, h3, h4, hk l' _ (fun e => ?_) h5, pimp (fun v x r => TI.stb _ _ v x tx r) h6⟩
      subst e
      exact c (x3 _ _ _ h h1)
theorem BySi.new {H1 H H2 : Hp} {g li : Addr} {kvs : List (Key × V)} {row : List (List Int)} {m : List Int} {s0 : Int} {v : V} (x : BySi H1 H g kvs row) (hm : m[0]? = some s0) (h : valV kvs (Sum.inl s0 : Key) = none) (tx : Tx H H2) (hl : H li = none) (hl1 : H1 li = none) (hg : li ≠ g)
    (hk : ∀ a xs, a ≠ li → a ≠ g → H a = some (.lst xs) → H2 a = some (.lst xs)) (hv : TI H2 v m) (h2 : H2 li = some (.lst [v])) : BySi H1 H2 g (putK kvs (Sum.inl s0 : Key) (.ref li)) (row ++ [m]) := by
  obtain ⟨x1, x2, x3⟩ := x
  have old : ∀ s l', valV kvs (Sum.inl s : Key) = some (.ref l') → l' ≠ li := fun s l' e z => by
    subst z
    rcases x2 s with ⟨q, _⟩ | ⟨m, ws, h1, _, _, h5, _⟩
    · rw [q] at e; cases e
    · rw [h1] at e; cases e; rw [hl] at h5; cases h5
  refine ⟨Nat.le_trans (length_putK _ _ _) (by simp; omega), fun s => ?_, fun s s' l' e1 e2 => ?_⟩
  · rw [slipsIn_snoc row m s0 s hm, valV_put]
    by_cases c : s0 = s
    · subst c
      rw [if_pos rfl, if_pos rfl]
      rcases x2 s0 with ⟨_, z⟩ | ⟨l', ws, h1, _⟩
      · exact .inr ⟨li, [v], rfl, hl1, hg, h2, by rw [z]; exact .cons hv .nil⟩
      · rw [h] at h1; cases h1
    · rw [if_neg c, if_neg (fun z => c (Sum.inl.inj z).symm)]
      rcases x2 s with z | ⟨l', ws, h1, h3, h4, h5, h6⟩
      · exact .inl z
      · exact .inr ⟨l', ws, h1, h3, h4, hk l' _ (old s l' h1) h4 h5, pimp (fun v x r => TI.stb _ _ v x tx r) h6⟩
  · rw [valV_put] at e1 e2
    by_cases c1 : (Sum.inl s : Key) = Sum.inl s0 <;> by_cases c2 : (Sum.inl s' : Key) = Sum.inl s0
    · exact (Sum.inl.inj c1).trans (Sum.inl.inj c2).symm
    · rw [if_pos c1] at e1; rw [if_neg c2] at e2; cases e1
      exact absurd rfl (old _ _ e2)
    · rw [if_neg c1] at e1; rw [if_pos c2] at e2; cases e2
      exact absurd rfl (old _ _ e1)
    · rw [if_neg c1] at e1; rw [if_neg c2] at e2
      exact x3 _ _ _ e1 e2
def sp_moves_by_slip : Sp := fun xs H Q _ => ∃ v row, xs = [v] ∧ TT TI H v row ∧ row.length < 1000000 ∧ (∀ m ∈ row, m.length = 4) ∧ ∀ d H', Ke H H' → ByS H' d row → Q (.ref d) H'
abbrev PT : Rl (List Int × List Int) := PP TI TI
theorem PT.stb : Stb PT := PP.stb TI.stb TI.stb
/-- what stands for two offices and a pair of standings -/
def TwoAt (K : PySem.W.Frag) (H : Hp) (p1 p2 : Addr) (o1 o2 : Ofc) (u : V) (q1 q2 : Int) : Prop := ∃ C1 C2, OC K C1 ∧ OC K C2 ∧ OfAt C1 H p1 o1 ∧ OfAt C2 H p2 o2 ∧ Wf o1 ∧ Wf o2 ∧ TI H u [q1, q2] ∧ (0 ≤ q1 ∧ q1 < o1.mv.length) ∧ 0 ≤ q2 ∧ q2 < o2.mv.length
def sp_joint_moves (K : PySem.W.Frag) : Sp := fun xs H Q _ => ∃ p1 p2 o1 o2 u q1 q2, xs = [.ref p1, .ref p2, u] ∧ TwoAt K H p1 p2 o1 o2 u q1 q2 ∧ (jointM o1 o2 q1 q2).length < 1000000 ∧ ∀ l ws H', H l = none → Ke H H' → H' l = some (.lst ws) → Paired (PT H') ws (sortP (jointM o1 o2 q1 q2)) → Q (.ref l) H'
def sp_joint_lasts (K : PySem.W.Frag) : Sp := fun xs H Q _ => ∃ p1 p2 o1 o2 u q1 q2, xs = [.ref p1, .ref p2, u] ∧ TwoAt K H p1 p2 o1 o2 u q1 q2 ∧ (jointL o1 o2 q1 q2).length < 1000000 ∧ ∀ v H', Ke H H' → TI H' v (sortI (jointL o1 o2 q1 q2)) → Q v H'
section
variable {P : Program} {w : World} {K : PySem.W.Frag} {mg : Str → Option Value} {base : Heap} (T : Txt K mg)
include T
theorem ok_moves_by_slip : FnOk P w K mg base CX0 1 T.a_moves_by_slip T.d_moves_by_slip P_moves_by_slip sp_moves_by_slip := by
  refine T.F_moves_by_slip.ok sc_moves_by_slip (fun vs H Q E h => ?_) (fun cdv A outer s H vs Q E hr h => ?_)
  · obtain ⟨v, row, rfl, _⟩ := h; rfl
  · obtain ⟨v, row, rfl, ⟨a, vs, rfl, ha, pa⟩, hl, h4, k⟩ := h
    have hu := hu_of hr
    refine ⟨_, (pss_cons (ps_set (i := 1) sc_moves_by_slip.nd rfl (Or.inl rfl) pe_dnewK)
  (pss_cons (ps_for PassesOwn.never rfl (pi_tup (pv 0)) (pg_name (i := 2) sc_moves_by_slip.nd rfl (Or.inl rfl)) (pss_one (ps_expr (pe_bm PySem.F.plainAttrs_list PySem.F.slot_list_append PySem.F.type_list_append mt_append (pe_dsetd (pv 1) (pe_ix ix_tup (pv 2) pe_int (fun _ _ => rfl)) (pe_lst pa_nil) ⟨rfl, rfl, rfl, rfl⟩) (pa_cons (pv 2) pa_nil)))))
  (pss_one (ps_ret (pv 1))))), ?_⟩
    intro g hg
    refine ⟨_, rfl, a, rfl, ⟨_, SqT.of ((Ke.new hg).at ha)⟩, fo_T (R := TI H) (fun d σ H' => (∃ o1, σ = [some (.ref a), some (.ref g), o1]) ∧ Ke H H' ∧ ∃ kvs, H' g = some (.dK kvs) ∧ BySi H H' g kvs d) pa
      ⟨⟨_, rfl⟩, Ke.new hg, [], upd_same, Nat.le_refl _, fun s => .inl ⟨rfl, rfl⟩, fun _ _ _ h => nomatch h⟩ (fun d σ H' p => p.2.1.at ha) ?_ ?_⟩
    · rintro d m r v σ H1 e ⟨b, rfl, hb⟩ ⟨⟨o1, rfl⟩, k1, kvs, hg1, bs⟩
      obtain ⟨s0, n0, k0, g0, rfl⟩ : ∃ s' n' k' go, m = [s', n', k', go] := by
        have := h4 m (by rw [e]; simp)
        match m, this with
        | [s', n', k', go], _ => exact ⟨_, _, _, _, rfl⟩
      have lk : kvs.length < 1000000 := by have := bs.1; rw [e] at hl; simp at hl; omega
      have hb1 := k1.at hb
      refine ⟨_, rfl, g, rfl, .inl ⟨_, .inl hg1⟩, _, rfl, b, _, 0, _, rfl, rfl, SqT.of hb1, rfl, (by show 0 ≤ sizeLine; decide), fun li hli => ?_⟩
      have k2 : Ke H1 (upd H1 li (.lst [])) := Ke.new hli
      have ngl : li ≠ g := (ne_of_none hg1 hli).symm
      have hli0 : H li = none := k1.free hli
      refine ⟨kvs, .inl s0, k2.at hg1, rfl, by rw [sizeLine_eq]; omega, fun v0 hv0 => ?_, fun hn0 => ?_⟩
      · obtain ⟨lo, ws, e1, e2, e3, e4, e5⟩ : ∃ lo ws, v0 = .ref lo ∧ H lo = none ∧ lo ≠ g ∧ H1 lo = some (.lst ws) ∧ Paired (TI H1) ws (slipsIn d s0) := by
          rcases bs.2.1 s0 with ⟨z, _⟩ | ⟨lo, ws, z1, z2, z3, z4, z5⟩
          · rw [hv0] at z; cases z
          · rw [hv0] at z1; cases z1; exact ⟨lo, ws, rfl, z2, z3, z4, z5⟩
        subst e1
        have lw : ws.length ≤ d.length := by rw [plen e5]; exact List.length_filter_le _ _
        have tx := snoc_tx (ws := ws ++ [.ref b]) k2.tx e4
        refine ⟨.inl ⟨rfl, _, SqL.of (k2.at e4)⟩, _, rfl, lo, ws, _, rfl, rfl, k2.at e4, by rw [sizeLine_eq]; rw [e] at hl; simp at hl; omega, ?_⟩
        exact ⟨⟨_, rfl⟩, (k1.trans k2).mutNew e2, kvs, by rw [upd_ne e3.symm]; exact k2.at hg1, bs.old rfl hv0 tx (fun a xs na h => by rw [upd_ne na]; exact k2.at h) e4 ⟨b, rfl, tx.tup _ _ hb1⟩ upd_same⟩
      · refine ⟨.inl ⟨rfl, [], SqL.of (by rw [upd_ne ngl, upd_same])⟩, _, rfl, li, [], _, rfl, rfl, by rw [upd_ne ngl, upd_same], by decide, ?_⟩
        have kk : Ke H (upd (upd (upd H1 li (.lst [])) g (.dK (putK kvs (.inl s0) (.ref li)))) li (.lst [.ref b])) := ((k1.trans k2).mutNew hg).mutNew hli0
        have tx : Tx H1 (upd (upd (upd H1 li (.lst [])) g (.dK (putK kvs (.inl s0) (.ref li)))) li (.lst [.ref b])) := ⟨fun a xs h => by
          rw [upd_ne (ne_of_none h hli), upd_ne (ne_of h hg1 (fun z => nomatch z)), upd_ne (ne_of_none h hli)]; exact h⟩
        exact ⟨⟨_, rfl⟩, kk, putK kvs (.inl s0) (.ref li), by rw [upd_ne ngl.symm, upd_same], bs.new rfl hn0 tx hli hli0 ngl (fun a xs na ng h => by rw [upd_ne na, upd_ne ng]; exact k2.at h) ⟨b, rfl, tx.tup _ _ hb1⟩ upd_same⟩
    · rintro σ H1 ⟨⟨o1, rfl⟩, k1, kvs, hg1, bs⟩
      exact ⟨_, rfl, k g H1 k1 ⟨kvs, hg1, fun s => (bs.2.1 s).imp id fun ⟨li, ws, e1, _, _, e2, e3⟩ => ⟨li, ws, e1, e2, e3⟩⟩⟩
end
end Fd
set_option Elab.async false
set_option linter.all false
set_option maxRecDepth 100000
set_option maxHeartbeats 4000000
namespace Fd
open PySem PySem.Spec PyProof.Rows L2
theorem four_of {m : List Int} (h : m.length = 4) : ∃ s n k g, m = [s, n, k, g] := by
  match m, h with
  | [s, n, k, g], _ => exact ⟨s, n, k, g, rfl⟩
/-- what is read of an office and one of its standings -/
structure At1 (K : PySem.W.Frag) (H : Hp) (p : Addr) (o : Ofc) (q : Int) (C dx : Addr) (fs : List (Str × V)) (z m c : Addr) (a b' c' : Int) (ms cs : List V) (ra : Addr) (rv : List V) (ca : Addr) (row : List (List Int)) (cl : List Int) : Prop where
  oc : OC K C
  hp : H p = some (.ins C dx fs)
  fs1 : fs.lookup ("sizes" : Str) = some (.ref z)
  fs2 : fs.lookup ("moves" : Str) = some (.ref m)
  fs3 : fs.lookup ("closings" : Str) = some (.ref c)
  ez : o.sz = [a, b', c']
  hz : H z = some (.tup [.int a, .int b', .int c'])
  hm : H m = some (.tup ms)
  hc : H c = some (.tup cs)
  im : atI ms q = some (.ref ra)
  ic : atI cs q = some (.ref ca)
  hr : H ra = some (.tup rv)
  pr : Paired (TI H) rv row
  hcl : H ca = some (.tup (cl.map V.int))
  er : at0 o.mv q = row
  ec : at0 o.cl q = cl
  mr : row ∈ o.mv
  mc : cl ∈ o.cl
theorem at1_of {K : PySem.W.Frag} {C : Addr} {H : Hp} {p : Addr} {o : Ofc} {q : Int} (oc : OC K C) (of : OfAt C H p o) (wf : Wf o) (h : 0 ≤ q ∧ q < o.mv.length) : ∃ dx fs z m c a b' c' ms cs ra rv ca row cl, At1 K H p o q C dx fs z m c a b' c' ms cs ra rv ca row cl := by
  obtain ⟨dx, vs, vm, vc, l, ds, hp, ⟨z, rfl, hz⟩, ⟨m, ms, rfl, hm, pm⟩, ⟨c, cs, rfl, hc, pc⟩, _⟩ := of.ex
  obtain ⟨a, b', c', ez, _⟩ := wf.sz
  have e1 : o.mv[q.toNat]? = some (o.mv[q.toNat]'(by omega)) := List.getElem?_eq_getElem (by omega)
  have e2 : o.cl[q.toNat]? = some (o.cl[q.toNat]'(by have := wf.cl; omega)) := List.getElem?_eq_getElem (by have := wf.cl; omega)
  obtain ⟨v1, h1, ra, rv, rfl, hra, prv⟩ := pget pm e1
  obtain ⟨v2, h2, ca, rfl, hca⟩ := pget pc e2
  exact ⟨dx, _, z, m, c, a, b', c', ms, cs, ra, rv, ca, _, _, ⟨oc, hp, offF_s _ _ _ _, offF_m _ _ _ _, offF_c _ _ _ _, ez, by rw [ez] at hz; exact hz, hm, hc, atI_nat h1 (by omega), atI_nat h2 (by omega), hra, prv, hca, at0_of e1, at0_of e2, List.mem_of_getElem? e1, List.mem_of_getElem? e2⟩⟩
section
variable {P : Program} {w : World} {K : PySem.W.Frag} {mg : Str → Option Value} {base : Heap} (T : Txt K mg)
include T
theorem ok_joint_moves : FnOk P w K mg base CX0 2 T.a_joint_moves T.d_joint_moves P_joint_moves (sp_joint_moves K) := by
  refine T.F_joint_moves.ok sc_joint_moves (fun vs H Q E h => ?_) (fun cdv A outer s H vs Q E hr h => ?_)
  · obtain ⟨p1, p2, o1, o2, u, q1, q2, rfl, _⟩ := h; rfl
  · obtain ⟨p1, p2, o1, o2, u, q1, q2, rfl, ⟨C1, C2, oc1, oc2, of1, of2, wf1, wf2, ⟨ua, rfl, hua⟩, hq1, hq2⟩, hlen, k⟩ := h
    have hu := hu_of hr
    obtain ⟨dx1, fs1, z1, m1, c1, x1, y1, w1, ms1, cs1, ra1, rv1, ca1, row1, cl1, A1⟩ := at1_of oc1 of1 wf1 hq1
    obtain ⟨dx2, fs2, z2, m2, c2, x2, y2, w2, ms2, cs2, ra2, rv2, ca2, row2, cl2, A2⟩ := at1_of oc2 of2 wf2 hq2
    have g1 := wf1.mv row1 A1.mr
    have g2 := wf2.mv row2 A2.mr
    have f4 : ∀ {o : Ofc} {r : List (List Int)}, (∀ m ∈ r, MoveOk o.sz o.mv.length m) → ∀ m ∈ r, m.length = 4 := fun h m hm => by
      obtain ⟨a, b, c, s, n, k, g, _, rfl, _⟩ := h m hm; rfl
    refine ⟨_, (pss_cons (ps_asg (pe_slice sl_tupA (pe_fld (pv 1) rfl) (po_some pe_int) po_none) (pg_tup rfl (pgs_cons (pg_name (i := 3) sc_joint_moves.nd rfl (Or.inl rfl)) (pgs_cons (pg_name (i := 4) sc_joint_moves.nd rfl (Or.inl rfl)) pgs_nil))))
  (pss_cons (ps_set (i := 5) sc_joint_moves.nd rfl (Or.inl rfl) (pe_call (ok_moves_by_slip T) (hr.mono (by decide)) rfl T.g_moves_by_slip T.k_moves_by_slip T.b_moves_by_slip .nil pass0 (pa_cons (pe_ix ix_tup (pe_fld (pv 1) rfl) (pe_ix ix_tup (pv 2) pe_int (fun _ _ => rfl)) (fun _ _ => rfl)) pa_nil)))
  (pss_cons (ps_set (i := 6) sc_joint_moves.nd rfl (Or.inl rfl) (pe_lst pa_nil))
  (pss_cons (ps_for PassesOwn.never rfl (pi_tup (pe_ix ix_tup (pe_fld (pv 0) rfl) (pe_ix ix_tup (pv 2) pe_int (fun _ _ => rfl)) (fun _ _ => rfl))) (pg_tup rfl (pgs_cons (pg_name (i := 7) sc_joint_moves.nd rfl (Or.inl rfl)) (pgs_cons (pg_name (i := 8) sc_joint_moves.nd rfl (Or.inl rfl)) (pgs_cons (pg_name (i := 9) sc_joint_moves.nd rfl (Or.inl rfl)) (pgs_cons (pg_name (i := 10) sc_joint_moves.nd rfl (Or.inl rfl)) pgs_nil))))) (pss_one (ps_for PassesOwn.never rfl (pi_list (pe_dget2 hu (pv 5) (pv 8) (pe_lst pa_nil) ⟨rfl, rfl, rfl, rfl⟩)) (pg_tup rfl (pgs_cons (pg_name (i := 11) sc_joint_moves.nd rfl (Or.inl rfl)) (pgs_cons (pg_name (i := 12) sc_joint_moves.nd rfl (Or.inl rfl)) (pgs_cons (pg_name (i := 13) sc_joint_moves.nd rfl (Or.inl rfl)) (pgs_cons (pg_name (i := 14) sc_joint_moves.nd rfl (Or.inl rfl)) pgs_nil))))) (pss_cons (ps_set (i := 15) sc_joint_moves.nd rfl (Or.inl rfl) (pe_tup (pa_cons (pv 7) (pa_cons (pe_op op_add (pe_op op_mul (pv 8) (pv 3)) (pv 12)) (pa_cons (pe_op op_add (pe_op op_mul (pv 9) (pv 4)) (pv 13)) pa_nil)))))
  (pss_one (ps_expr (pe_bm PySem.F.plainAttrs_list PySem.F.slot_list_append PySem.F.type_list_append mt_append (pv 6) (pa_cons (pe_tup (pa_cons (pv 15) (pa_cons (pe_tup (pa_cons (pv 10) (pa_cons (pv 14) pa_nil))) pa_nil))) pa_nil))))))))
  (pss_one (ps_ret (pe_callB (cr_sortedD hr) (by rfl) T.n_sorted (by decide +kernel) (pa_cons (pv 6) pa_nil)))))))), ?_⟩
    -- answers, marks
    refine ⟨_, rfl, p2, C2, dx2, _, _, rfl, A2.hp, oc2.c, oc2.n1, A2.fs1, 1, rfl, z2, _, rfl, SqT.of A2.hz, fun h => absurd h.1 (by show ¬ HT.sIx 3 0 (some 1) = 0; decide), fun _ t ht => ?_⟩
    have k0 : Ke H (upd H t (.tup [.int y2, .int w2])) := Ke.new ht
    refine ⟨t, _, rfl, SqT.of upd_same, rfl, _, _, rfl, _, _, rfl, rfl, ?_⟩
    -- taken
    refine ⟨_, rfl, p2, C2, dx2, _, _, rfl, k0.at A2.hp, oc2.c, oc2.n2, A2.fs2, _, rfl, ua, _, 1, _, rfl, rfl, SqT.of (k0.at hua), rfl, m2, ms2, q2, _, rfl, rfl, SqT.of (k0.at A2.hm), A2.im, ?_⟩
    refine ⟨_, row2, rfl, ⟨ra2, rv2, rfl, k0.at A2.hr, pimp (fun v x r => TI.stb _ _ v x k0.tx r) A2.pr⟩, g2.1, f4 g2.2, fun d H1 k01 by1 => ?_⟩
    have k1 : Ke H H1 := k0.trans k01
    -- found = []
    refine ⟨by decide, fun f hf => ?_⟩
    have k2 : Ke H (upd H1 f (.lst [])) := k1.trans (Ke.new hf)
    have hf0 : H f = none := k1.free hf
    have by2 : ByS (Hd (fun a => a = f) (upd H1 f (.lst []))) d row2 := by1.ke (Ke.of fun a o h => Hd.get (ne_of_none h hf) (by rw [upd_ne (ne_of_none h hf)]; exact h))
    refine ⟨_, rfl, p1, C1, dx1, _, _, rfl, k2.at A1.hp, oc1.c, oc1.n2, A1.fs2, _, rfl, ua, _, 0, _, rfl, rfl, SqT.of (k2.at hua), rfl, m1, ms1, q1, _, rfl, rfl, SqT.of (k2.at A1.hm), A1.im, ra1, rfl, ⟨_, SqT.of (k2.at A1.hr)⟩, ?_⟩
    generalize hJ : (fun m : List Int => (slipsIn row2 (m.getD 1 0)).map fun m' => (([m.getD 0 0, m.getD 1 0 * y2 + m'.getD 1 0, m.getD 2 0 * w2 + m'.getD 2 0] : List Int), ([m.getD 3 0, m'.getD 3 0] : List Int))) = J
    have eJ : jointM o1 o2 q1 q2 = row1.flatMap J := by unfold jointM; rw [A1.er, A2.er, A2.ez, ← hJ]; rfl
    rw [eJ] at hlen k
    refine fo_T (R := TI H) (fun dn σ H' => (∃ s7 s8 s9 s10 s11 s12 s13 s14 s15, σ = [some (.ref p1), some (.ref p2), some (.ref ua), some (.int y2), some (.int w2), some (.ref d), some (.ref f), s7, s8, s9, s10, s11, s12, s13, s14, s15]) ∧ Ke H H' ∧ ByS (Hd (fun a => a = f) H') d row2 ∧ ∃ fs, H' f = some (.lst fs) ∧ Paired (PT H') fs (dn.flatMap J)) A1.pr
      ⟨⟨_, _, _, _, _, _, _, _, _, rfl⟩, k2, by2, [], upd_same, .nil⟩ (fun d σ H' p => p.2.1.at A1.hr) ?_ ?_
    · rintro dn m r v σ H2 e ⟨b, rfl, hb⟩ ⟨⟨s7, s8, s9, s10, s11, s12, s13, s14, s15, rfl⟩, k3, by3, fl, hf3, pf3⟩
      obtain ⟨a', b', c', s', n', kk', gg', es', rfl, b1, b2, b3, b4⟩ := g1.2 m (by rw [e]; simp)
      obtain ⟨rfl, rfl, rfl⟩ : x1 = a' ∧ y1 = b' ∧ w1 = c' := by have := A1.ez.symm.trans es'; simpa using this
      obtain ⟨xx, yy, zz, ezz, hx, hy, hz⟩ := wf1.sz
      obtain ⟨rfl, rfl, rfl⟩ : x1 = xx ∧ y1 = yy ∧ w1 = zz := by have := A1.ez.symm.trans ezz; simpa using this
      have hb3 := k3.at hb
      refine ⟨b, _, rfl, SqT.of hb3, rfl, _, _, rfl, _, _, rfl, _, _, rfl, _, _, rfl, rfl, ?_⟩
      obtain ⟨kvs, hd3, fs3⟩ := by3
      refine ⟨_, rfl, d, rfl, .inl ⟨_, .inl (Hd.at hd3).2⟩, _, rfl, by decide, fun e0 he0 => ?_⟩
      have k4 : Ke H2 (upd H2 e0 (.lst [])) := Ke.new he0
      have hd3' := (Hd.at hd3).2
      have dg : DGet (upd H2 e0 (.lst [])) d (kV (.inl n')) (valV kvs (.inl n' : Key)) := DGet.k (k4.at hd3')
      obtain ⟨gl, ws, eg, nfgl, hgl, pw⟩ : ∃ gl ws, (valV kvs (.inl n' : Key)).getD (.ref e0) = .ref gl ∧ gl ≠ f ∧ (upd H2 e0 (.lst [])) gl = some (.lst ws) ∧ Paired (TI (upd H2 e0 (.lst []))) ws (slipsIn row2 n') := by
        rcases fs3 n' with ⟨z1, z2⟩ | ⟨li, ws, z1, z2, z3⟩
        · exact ⟨e0, [], by rw [z1]; rfl, (ne_of_none hf3 he0).symm, by rw [upd_same], by rw [z2]; exact .nil⟩
        · exact ⟨li, ws, by rw [z1]; rfl, (Hd.at z2).1, k4.at (Hd.at z2).2, pimp (fun v x ⟨a, e, h⟩ => ⟨a, e, k4.at (Hd.at h).2⟩) z3⟩
      refine ⟨_, dg, ?_⟩
      rw [eg]
      refine ⟨gl, rfl, ⟨_, SqL.of hgl⟩, fo_L (R := TI (upd H2 e0 (.lst []))) (fun d' σ H' => (∃ s11 s12 s13 s14 s15, σ = [some (.ref p1), some (.ref p2), some (.ref ua), some (.int y2), some (.int w2), some (.ref d), some (.ref f), some (.int s'), some (.int n'), some (.int kk'), some (.int gg'), s11, s12, s13, s14, s15]) ∧ Ke H H' ∧ ByS (Hd (fun a => a = f) H') d row2 ∧ H' gl = some (.lst ws) ∧ Tx (upd H2 e0 (.lst [])) H' ∧ ∃ fs, H' f = some (.lst fs) ∧ Paired (PT H') fs (dn.flatMap J ++ d'.map fun m' => ([s', n' * y2 + m'.getD 1 0, kk' * w2 + m'.getD 2 0], [gg', m'.getD 3 0]))) pw
        ⟨⟨_, _, _, _, _, rfl⟩, k3.trans k4, ByS.ke ⟨kvs, hd3, fs3⟩ (Hd.ke k4.ks), hgl, ⟨fun _ _ h => h⟩, fl, k4.at hf3, by simpa using pimp (fun v x r => PT.stb _ _ v x k4.tx r) pf3⟩ (fun d σ H' p => p.2.2.2.1) ?_ ?_⟩
      · rintro d' m' r' v' σ' H3 e' ⟨b5, rfl, hb5⟩ ⟨⟨s11, s12, s13, s14, s15, rfl⟩, k5, by5, hgl5, tx5, fl5, hf5, pf5⟩
        obtain ⟨a'', b'', c'', sa, na, ka, ga, es'', rfl, d1, d2, d3, d4⟩ := g2.2 m' (List.mem_filter.mp (by rw [e']; simp : m' ∈ slipsIn row2 n')).1
        have hb6 : H3 b5 = some (.tup [.int sa, .int na, .int ka, .int ga]) := tx5.tup _ _ hb5
        refine ⟨b5, _, rfl, SqT.of hb6, rfl, _, _, rfl, _, _, rfl, _, _, rfl, _, _, rfl, rfl, ?_⟩
        -- step
        refine ⟨_, rfl, _, rfl, _, rfl, _, _, rfl, rfl, .inl (by omega), _, rfl, _, _, rfl, rfl, _, rfl, _, rfl, _, _, rfl, rfl, .inl (by omega), _, rfl, _, _, rfl, rfl, (by show 3 ≤ sizeLine; decide), fun t ht => ?_⟩
        have k6 := Ke.new (o := .tup [.int s', .int (n' * y2 + na), .int (kk' * w2 + ka)]) ht
        refine ⟨_, rfl, .inl ⟨rfl, _, SqL.of (k6.at hf5)⟩, _, rfl, _, rfl, _, rfl, (by show 2 ≤ sizeLine; decide), fun t2 ht2 => ⟨(by show 2 ≤ sizeLine; decide), fun t3 ht3 => ?_⟩⟩
        have k7 := (k6.trans (Ke.new (o := .tup [.int gg', .int ga]) ht2)).trans (Ke.new (o := .tup [.ref t, .ref t2]) ht3)
        have lf : fl5.length < 1000000 := by
          have := plen pf5
          rw [e, List.flatMap_append, List.flatMap_cons, ← hJ] at hlen
          rw [← hJ] at this
          simp only [List.length_append, List.length_map] at this hlen
          have e2 := congrArg List.length e'
          simp only [List.length_append, List.length_cons] at e2
          have e3 : (slipsIn row2 ([s', n', kk', gg'].getD 1 0)).length = (slipsIn row2 n').length := rfl
          omega
        refine ⟨f, fl5, _, rfl, rfl, k7.at hf5, by rw [sizeLine_eq]; omega, ?_⟩
        have tx := snoc_tx (ws := fl5 ++ [.ref t3]) k7.tx hf5
        have ks : Ks (fun a => a = f) H3 _ := (k7.ks (S := fun a => a = f)).mut (o := .lst (fl5 ++ [.ref t3])) rfl (fun xs z => by rw [k7.at hf5] at z; cases z)
        refine ⟨⟨_, _, _, _, _, rfl⟩, (k5.trans k7).mutNew hf0, by5.ke (Hd.ke ks), by rw [upd_ne nfgl]; exact k7.at hgl5, ⟨fun a xs h => tx.tup a xs (tx5.tup a xs h)⟩, _, upd_same, ?_⟩
        rw [List.map_append, ← List.append_assoc]
        have n1 : t ≠ f := fun z => by rw [z, hf5] at ht; cases ht
        have n2 : t2 ≠ f := fun z => by rw [z, k6.at hf5] at ht2; cases ht2
        have n3 : t3 ≠ f := fun z => by rw [z, (k6.trans (Ke.new (o := .tup [.int gg', .int ga]) ht2)).at hf5] at ht3; cases ht3
        have q1 : t ≠ t2 := fun z => by rw [← z, upd_same] at ht2; cases ht2
        have q2 : t2 ≠ t3 := fun z => by rw [← z, upd_same] at ht3; cases ht3
        have q3 : t ≠ t3 := fun z => by rw [← z, upd_ne q1, upd_same] at ht3; cases ht3
        refine papp (pimp (fun v x r => PT.stb _ _ v x tx r) pf5) (.cons ⟨t3, _, _, rfl, by rw [upd_ne n3, upd_same], ⟨t, rfl, ?_⟩, ⟨t2, rfl, ?_⟩⟩ .nil)
        · rw [upd_ne n1, upd_ne q3, upd_ne q1, upd_same]; rfl
        · rw [upd_ne n2, upd_ne q2, upd_same]; rfl
      · rintro σ' H3 ⟨⟨s11, s12, s13, s14, s15, rfl⟩, k5, by5, hgl5, tx5, fl5, hf5, pf5⟩
        refine ⟨⟨_, _, _, _, _, _, _, _, _, rfl⟩, k5, by5, fl5, hf5, ?_⟩
        rw [List.flatMap_append, List.flatMap_singleton, ← hJ]
        rw [← hJ] at pf5
        exact pf5
    · rintro σ H2 ⟨⟨s7, s8, s9, s10, s11, s12, s13, s14, s15, rfl⟩, k3, by3, fl, hf3, pf3⟩
      refine ⟨_, rfl, f, fl, _, PT H2, encP, _, rfl, SqL.of hf3, pf3, fun v b r => PP.enc TI.enc TI.enc K H2 v b r, ok_P, fun p out hp po => ?_⟩
      exact k p out _ (k3.free hp) (k3.trans (Ke.new hp)) upd_same (pimp (fun v x r => PT.stb _ _ v x (Ke.new hp).tx r) po)
end
end Fd
set_option Elab.async false
set_option linter.all false
set_option maxRecDepth 100000
set_option maxHeartbeats 4000000
namespace Fd
open PySem PySem.Spec PyProof.Rows L2
section
variable {P : Program} {w : World} {K : PySem.W.Frag} {mg : Str → Option Value} {base : Heap} (T : Txt K mg)
include T
theorem ok_joint_lasts : FnOk P w K mg base CX0 1 T.a_joint_lasts T.d_joint_lasts P_joint_lasts (sp_joint_lasts K) := by
  refine T.F_joint_lasts.ok sc_joint_lasts (fun vs H Q E h => ?_) (fun cdv A outer s H vs Q E hr h => ?_)
  · obtain ⟨p1, p2, o1, o2, u, q1, q2, rfl, _⟩ := h; rfl
  · obtain ⟨p1, p2, o1, o2, u, q1, q2, rfl, ⟨C1, C2, oc1, oc2, of1, of2, wf1, wf2, ⟨ua, rfl, hua⟩, hq1, hq2⟩, hlen, k⟩ := h
    obtain ⟨dx1, fs1, z1, m1, c1, x1, y1, w1, ms1, cs1, ra1, rv1, ca1, row1, cl1, A1⟩ := at1_of oc1 of1 wf1 hq1
    obtain ⟨dx2, fs2, z2, m2, c2, x2, y2, w2, ms2, cs2, ra2, rv2, ca2, row2, cl2, A2⟩ := at1_of oc2 of2 wf2 hq2
    have g1 := wf1.ck cl1 A1.mc
    have g2 := wf2.ck cl2 A2.mc
    refine ⟨_, (pss_cons (ps_set (i := 3) sc_joint_lasts.nd rfl (Or.inr rfl) (pe_ix ix_tup (pe_fld (pv 1) rfl) pe_int (fun _ _ => rfl)))
  (pss_cons (ps_set (i := 4) sc_joint_lasts.nd rfl (Or.inl rfl) (pe_ix ix_tup (pe_fld (pv 0) rfl) (pe_ix ix_tup (pv 2) pe_int (fun _ _ => rfl)) (fun _ _ => rfl)))
  (pss_one (ps_ret (pe_callTy call_tuple_of (by rfl) T.n_tuple (by decide +kernel) (pa_cons (pe_callB (cr_sortedD hr) (by rfl) T.n_sorted (by decide +kernel) (pa_cons (pe_lc2 (vs1 := [6]) (own := [("mark", 5), ("other", 6)]) rfl sc_joint_lasts.nd (pi_tup (pv 4)) (blkOk_by (own := [("mark", 5), ("other", 6)]) (N := N_joint_lasts) (sc := defScope s_joint_lasts) (by decide +kernel)) (by decide) (fun _ _ _ _ _ => (pg_name (i := 5) sc_joint_lasts.nd rfl (Or.inl rfl))) (fun _ _ _ _ _ => pts_nil) (fun _ _ _ _ _ => (pi_tupK K rfl (pe_ix (ix_tupK K rfl) (pe_fldK K rfl (pv 1) rfl) (pe_ix (ix_tupK K rfl) (pv 2) pe_int (fun _ _ => rfl)) (fun _ _ => rfl)))) (fun _ _ _ _ _ => (pg_name (i := 6) sc_joint_lasts.nd rfl (Or.inl rfl))) (fun _ _ _ _ _ => pts_nil) (fun _ _ _ _ _ => (pe_op op_add (pe_op op_mul (pv 5) (pv 3)) (pv 6)))) pa_nil)) pa_nil)))))), ?_⟩
    refine ⟨_, rfl, p2, C2, dx2, _, _, rfl, A2.hp, oc2.c, oc2.n1, A2.fs1, z2, _, 2, _, rfl, rfl, SqT.of A2.hz, rfl, ?_⟩
    refine ⟨_, rfl, p1, C1, dx1, _, _, rfl, A1.hp, oc1.c, oc1.n3, A1.fs3, _, rfl, ua, _, 0, _, rfl, rfl, SqT.of hua, rfl, c1, cs1, q1, _, rfl, rfl, SqT.of A1.hc, A1.ic, ?_⟩
    have eJ : jointL o1 o2 q1 q2 = cl1.flatMap fun k => cl2.map fun k' => k * w2 + k' := by unfold jointL; rw [A1.ec, A2.ec, A2.ez]; rfl
    rw [eJ] at hlen k
    refine ⟨_, rfl, ca1, rfl, ⟨_, SqT.of A1.hcl⟩, fun D hD => lw_T (R := II H) (fun d H' => Ke H H' ∧ H' D = some (.lst ((d.flatMap fun k => cl2.map fun k' => k * w2 + k').map V.int))) (pmap_int cl1) ⟨Ke.new hD, upd_same⟩ (fun d H' p => p.1.at A1.hcl) ?_ ?_⟩
    · rintro d x r v H1 e rfl ⟨k1, hD1⟩
      refine ⟨rfl, _, rfl, p2, C2, dx2, _, _, rfl, k1.at A2.hp, oc2.c, oc2.n3, A2.fs3, _, rfl, ua, _, 1, _, rfl, rfl, SqT.of (k1.at hua), rfl, c2, cs2, q2, _, rfl, rfl, SqT.of (k1.at A2.hc), A2.ic, ca2, rfl, ⟨_, SqT.of (k1.at A2.hcl)⟩, ?_⟩
      refine lw_T (R := II H) (fun d' H' => Ke H H' ∧ H' D = some (.lst (((d.flatMap fun k => cl2.map fun k' => k * w2 + k') ++ d'.map fun k' => x * w2 + k').map V.int))) (pmap_int cl2) ⟨k1, by simpa using hD1⟩ (fun d H' p => p.1.at A2.hcl) ?_ ?_
      · rintro d' x' r' v' H2 e' rfl ⟨k2, hD2⟩
        have b1 := g1.2 x (by rw [e]; simp)
        refine ⟨rfl, _, rfl, _, rfl, _, _, rfl, rfl, .inl (by omega), _, rfl, _, _, rfl, rfl, _, hD2, ?_, k2.mutNew hD, ?_⟩
        · rw [e, List.flatMap_append, List.flatMap_cons] at hlen
          simp only [List.length_append, List.length_map] at hlen ⊢
          have e2 := congrArg List.length e'
          simp only [List.length_append, List.length_cons] at e2
          rw [sizeLine_eq]; omega
        · rw [upd_same]
          simp [List.map_append, List.append_assoc]
      · rintro H2 ⟨k2, hD2⟩
        refine ⟨k2, ?_⟩
        rw [List.flatMap_append, List.flatMap_singleton]
        exact hD2
    · rintro H1 ⟨k1, hD1⟩
      refine ⟨D, _, Int, II H1, PyData.int, _, rfl, SqL.of hD1, pmap_int _, fun v b r => II.enc K H1 v b r, ok_I, fun p out hp po => ⟨p, out, rfl, .inl ⟨SqL.of upd_same, fun t ht => ?_⟩⟩⟩
      refine k _ _ ((k1.trans (Ke.new hp)).trans (Ke.new ht)) ⟨t, rfl, ?_⟩
      rw [upd_same, paired_int po]
      rfl
end
end Fd
set_option Elab.async false
set_option linter.all false
set_option maxRecDepth 100000
set_option maxHeartbeats 4000000
namespace Fd
open PySem PySem.Spec PyProof.Rows L2
/-- a dict of numbers of pairs -/
def NumAt (H : Hp) (d : Addr) (ps : List (List Int)) : Prop := ∃ kvs, H d = some (.dT kvs) ∧ kvs.length = ps.length ∧ ∀ g : List Int, valV kvs (keyI g) = if g ∈ ps then some (.int (ps.idxOf g : Nat)) else none
theorem NumAt.ke {H H' : Hp} {d : Addr} {ps : List (List Int)} (x : NumAt H d ps) (k : Ke H H') : NumAt H' d ps := by
  obtain ⟨kvs, h, l, f⟩ := x
  exact ⟨kvs, k.at h, l, f⟩
theorem num_len {kvs : List (List Key × V)} {ps : List (List Int)} {g0 : List Int} {v : V} (h : g0 ∉ ps) (l : kvs.length = ps.length) (f : ∀ g : List Int, valV kvs (keyI g) = if g ∈ ps then some (.int (ps.idxOf g : Nat)) else none) : (putK kvs (keyI g0) v).length = (ps ++ [g0]).length := by
  rw [putK_new v (by rw [f, if_neg h]), List.length_append, List.length_append, l]; rfl
theorem num_put {kvs : List (List Key × V)} {ps : List (List Int)} {g0 : List Int} (h : g0 ∉ ps) (f : ∀ g : List Int, valV kvs (keyI g) = if g ∈ ps then some (.int (ps.idxOf g : Nat)) else none) (g : List Int) :
    valV (putK kvs (keyI g0) (.int ps.length)) (keyI g) = if g ∈ ps ++ [g0] then some (.int ((ps ++ [g0]).idxOf g : Nat)) else none := by
  rw [valV_put]
  by_cases c : keyI g = keyI g0
  · rw [if_pos c]
    have := keyI_inj c
    subst this
    rw [if_pos (by simp), List.idxOf_append, if_neg h]
    simp
  · rw [if_neg c, f]
    by_cases m : g ∈ ps
    · rw [if_pos m, if_pos (by simp [m]), List.idxOf_append, if_pos m]
    · have n : g ∉ ps ++ [g0] := fun z => by
        rcases List.mem_append.mp z with q | q
        · exact m q
        · exact c (by rw [List.mem_singleton.mp q])
      rw [if_neg m, if_neg n]
/-- few moves in a row -/
def Small (o : Ofc) : Prop := (∀ r ∈ o.mv, r.length ≤ 900) ∧ ∀ r ∈ o.cl, r.length ≤ 900
theorem at0_len {α : Type} {xs : List (List α)} {n : Nat} (h : ∀ r ∈ xs, r.length ≤ n) (i : Int) : (at0 xs i).length ≤ n := by
  unfold at0
  cases e : xs[i.toNat]? with
  | none => exact Nat.zero_le _
  | some r => exact h r (List.mem_of_getElem? e)
theorem flat_len {α β : Type} {f : α → List β} {n : Nat} (h : ∀ a, (f a).length ≤ n) : ∀ l : List α, (l.flatMap f).length ≤ l.length * n
  | [] => by simp
  | a :: l => by
    have := flat_len h l
    have := h a
    rw [List.flatMap_cons, List.length_append, List.length_cons, Nat.succ_mul]; omega
theorem jointM_len {o1 o2 : Ofc} (s1 : Small o1) (s2 : Small o2) (q1 q2 : Int) : (jointM o1 o2 q1 q2).length < 1000000 := by
  have h := flat_len (f := fun m => (slipsIn (at0 o2.mv q2) (m.getD 1 0)).map fun m' => (([m.getD 0 0, m.getD 1 0 * o2.sz.getD 1 0 + m'.getD 1 0, m.getD 2 0 * o2.sz.getD 2 0 + m'.getD 2 0] : List Int), ([m.getD 3 0, m'.getD 3 0] : List Int))) (n := 900)
    (fun a => by rw [List.length_map]; exact Nat.le_trans (List.length_filter_le _ _) (at0_len s2.1 q2)) (at0 o1.mv q1)
  have h2 := Nat.mul_le_mul_right 900 (at0_len s1.1 q1)
  unfold jointM
  omega
theorem jointL_len {o1 o2 : Ofc} (s1 : Small o1) (s2 : Small o2) (q1 q2 : Int) : (jointL o1 o2 q1 q2).length < 1000000 := by
  have h := flat_len (f := fun k => (at0 o2.cl q2).map fun k' => k * o2.sz.getD 2 0 + k') (n := 900) (fun a => by rw [List.length_map]; exact at0_len s2.2 q2) (at0 o1.cl q1)
  have h2 := Nat.mul_le_mul_right 900 (at0_len s1.2 q1)
  unfold jointL
  omega
theorem Wf.goals {o : Ofc} (w : Wf o) : GoalsOk o := fun r hr m hm => by
  obtain ⟨a, b, c, s, n, k, g, _, rfl, _, _, _, h1, h2⟩ := (w.mv r hr).2 m hm
  show 0 ≤ g ∧ g < _
  omega
/-- what a chain asks of its offices -/
structure Two (K : PySem.W.Frag) (H : Hp) (p1 p2 : Addr) (o1 o2 : Ofc) : Prop where
  at1 : ∃ C1, OC K C1 ∧ OfAt C1 H p1 o1
  at2 : ∃ C2, OC K C2 ∧ OfAt C2 H p2 o2
  w1 : Wf o1
  w2 : Wf o2
  s1 : Small o1
  s2 : Small o2
theorem Two.ke {K : PySem.W.Frag} {H H' : Hp} {p1 p2 : Addr} {o1 o2 : Ofc} (x : Two K H p1 p2 o1 o2) (k : Ke H H') : Two K H' p1 p2 o1 o2 :=
  ⟨x.at1.imp fun _ h => ⟨h.1, h.2.ke k⟩, x.at2.imp fun _ h => ⟨h.1, h.2.ke k⟩, x.w1, x.w2, x.s1, x.s2⟩
theorem Two.pair {K : PySem.W.Frag} {H : Hp} {p1 p2 : Addr} {o1 o2 : Ofc} (x : Two K H p1 p2 o1 o2) {u : V} {q : List Int} (hq : PairOk o1 o2 q) (hu : TI H u q) : TwoAt K H p1 p2 o1 o2 u (q.getD 0 0) (q.getD 1 0) := by
  obtain ⟨a, b, rfl, ha, hb⟩ := hq
  obtain ⟨C1, oc1, of1⟩ := x.at1
  obtain ⟨C2, oc2, of2⟩ := x.at2
  exact ⟨C1, C2, oc1, oc2, of1, of2, x.w1, x.w2, hu, ha, hb⟩
/-- the heap while the moves of one pair are taken -/
def MidC (H H5 : Hp) (nd pl rl : Addr) (ps : List (List Int)) (H6 : Hp) : Prop := Ks (fun a => a = nd ∨ a = pl ∨ a = rl) H5 H6 ∧ Ke H H6 ∧ NumAt H6 nd ps ∧ ∃ ws, H6 pl = some (.lst ws) ∧ Paired (TI H6) ws ps
theorem Ke.then {S : Addr → Prop} {H H1 H2 : Hp} (x : Ke H H1) (y : Ks S H1 H2) (n : ∀ a, S a → H a = none) : Ke H H2 :=
  ⟨fun a o _ h => y.keep a o (fun z => by rw [n a z] at h; cases h) (x.at h), fun a xs h => y.tup a xs (x.tup a xs h), fun a h => y.there a (x.there a h)⟩
theorem rowC_ne {ps : List (List Int)} {js : List (List Int × List Int)} : ∀ b ∈ rowC ps js, b ≠ [] := fun b hb => by
  obtain ⟨x, _, rfl⟩ := List.mem_map.mp hb
  simp
def sp_chained (K : PySem.W.Frag) (C : Addr) : Sp := fun xs H Q _ => ∃ p1 p2 o1 o2, xs = [.ref p1, .ref p2] ∧ Two K H p1 p2 o1 o2 ∧ o1.mv.length * o2.mv.length ≤ 4000 ∧ o1.sz.getD 1 0 ≤ o2.sz.getD 0 0 ∧ ∀ p H', Ke H H' → OfAt C H' p (chainM o1 o2) → Q (.ref p) H'
section
variable {P : Program} {w : World} {K : PySem.W.Frag} {mg : Str → Option Value} {base : Heap} (T : Txt K mg)
include T
theorem ok_chained : FnOk P w K mg base CX0 4 T.a_chained T.d_chained P_chained (sp_chained K T.a_RawOffice) := by
  refine T.F_chained.ok sc_chained (fun vs H Q E h => ?_) (fun cdv A outer s H vs Q E hr h => ?_)
  · obtain ⟨p1, p2, o1, o2, rfl, _⟩ := h; rfl
  · obtain ⟨p1, p2, o1, o2, rfl, two, hn, hsz, k⟩ := h
    have hu := hu_of hr
    obtain ⟨C1, oc1, of1⟩ := two.at1
    obtain ⟨C2, oc2, of2⟩ := two.at2
    have w1 := two.w1
    have w2 := two.w2
    obtain ⟨dx1, fs1, z1, m1, c1, x1, y1, v1, ms1, cs1, ra1, rv1, ca1, row1, cl1, A1⟩ := at1_of oc1 of1 w1 (q := 0) (by have := w1.n1; omega)
    obtain ⟨dx2, fs2, z2, m2, c2, x2, y2, v2, ms2, cs2, ra2, rv2, ca2, row2, cl2, A2⟩ := at1_of oc2 of2 w2 (q := 0) (by have := w2.n1; omega)
    have hsz' : ¬ x2 < y1 := by rw [A1.ez, A2.ez] at hsz; simpa using hsz
    obtain ⟨a1, b1, d1, ez1, ha1, hb1, hd1⟩ := w1.sz
    obtain ⟨rfl, rfl, rfl⟩ : x1 = a1 ∧ y1 = b1 ∧ v1 = d1 := by have := A1.ez.symm.trans ez1; simpa using this
    refine ⟨_, (pss_cons (ps_if (pt_cmpR op_gt (pe_ix ix_tup (pe_fld (pv 0) rfl) pe_int (fun _ _ => rfl)) (pe_ix ix_tup (pe_fld (pv 1) rfl) pe_int (fun _ _ => rfl)) (nomark _)) (pss_one ps_never) pss_nil)
  (pss_cons (ps_set (i := 2) sc_chained.nd rfl (Or.inl rfl) (pe_dispT hu (pe_tup (pa_cons pe_int (pa_cons pe_int pa_nil))) pe_int))
  (pss_cons (ps_set (i := 3) sc_chained.nd rfl (Or.inl rfl) (pe_lst (pa_cons (pe_tup (pa_cons pe_int (pa_cons pe_int pa_nil))) pa_nil)))
  (pss_cons (ps_set (i := 4) sc_chained.nd rfl (Or.inl rfl) (pe_lst pa_nil))
  (pss_cons (ps_set (i := 5) sc_chained.nd rfl (Or.inl rfl) (pe_lst pa_nil))
  (pss_cons (ps_while PassesOwn.never (pt_cmpR op_lt (pe_callB call_len (by rfl) T.n_len (by decide +kernel) (pa_cons (pv 4) pa_nil)) (pe_callB call_len (by rfl) T.n_len (by decide +kernel) (pa_cons (pv 3) pa_nil)) (nomark _)) (pss_cons (ps_set (i := 6) sc_chained.nd rfl (Or.inl rfl) (pe_ix ix_list (pv 3) (pe_callB call_len (by rfl) T.n_len (by decide +kernel) (pa_cons (pv 4) pa_nil)) (fun _ _ => rfl)))
  (pss_cons (ps_set (i := 7) sc_chained.nd rfl (Or.inl rfl) (pe_lst pa_nil))
  (pss_cons (ps_for PassesOwn.never rfl (pi_list (pe_call (ok_joint_moves T) (hr.mono (by decide)) rfl T.g_joint_moves T.k_joint_moves T.b_joint_moves .nil pass0 (pa_cons (pv 0) (pa_cons (pv 1) (pa_cons (pv 6) pa_nil))))) (pg_tup rfl (pgs_cons (pg_name (i := 8) sc_chained.nd rfl (Or.inl rfl)) (pgs_cons (pg_name (i := 9) sc_chained.nd rfl (Or.inl rfl)) pgs_nil))) (pss_cons (ps_if (pt_cmp (pc_dnotin hu (pv 9) (pv 2))) (pss_cons (ps_dput hu (pv 2) (pv 9) (pe_callB call_len (by rfl) T.n_len (by decide +kernel) (pa_cons (pv 3) pa_nil)) rfl)
  (pss_one (ps_expr (pe_bm PySem.F.plainAttrs_list PySem.F.slot_list_append PySem.F.type_list_append mt_append (pv 3) (pa_cons (pv 9) pa_nil))))) pss_nil)
  (pss_one (ps_expr (pe_bm PySem.F.plainAttrs_list PySem.F.slot_list_append PySem.F.type_list_append mt_append (pv 7) (pa_cons (pe_op op_catA (pv 8) (pe_tup (pa_cons (pe_dget hu (pv 2) (pv 9) (fun _ _ => rfl)) pa_nil))) pa_nil))))))
  (pss_cons (ps_expr (pe_bm PySem.F.plainAttrs_list PySem.F.slot_list_append PySem.F.type_list_append mt_append (pv 4) (pa_cons (pe_callTy call_tuple_of (by rfl) T.n_tuple (by decide +kernel) (pa_cons (pe_callB (cr_sortedD hr) (by rfl) T.n_sorted (by decide +kernel) (pa_cons (pv 7) pa_nil)) pa_nil)) pa_nil)))
  (pss_one (ps_expr (pe_bm PySem.F.plainAttrs_list PySem.F.slot_list_append PySem.F.type_list_append mt_append (pv 5) (pa_cons (pe_call (ok_joint_lasts T) (hr.mono (by decide)) rfl T.g_joint_lasts T.k_joint_lasts T.b_joint_lasts .nil pass0 (pa_cons (pv 0) (pa_cons (pv 1) (pa_cons (pv 6) pa_nil)))) pa_nil)))))))))
  (pss_cons (ps_set (i := 10) sc_chained.nd rfl (Or.inl rfl) (pe_op op_mul (pe_ix ix_tup (pe_fld (pv 0) rfl) pe_int (fun _ _ => rfl)) (pe_ix ix_tup (pe_fld (pv 1) rfl) pe_int (fun _ _ => rfl))))
  (pss_cons (ps_set (i := 11) sc_chained.nd rfl (Or.inl rfl) (pe_op op_mul (pe_ix ix_tup (pe_fld (pv 0) rfl) pe_int (fun _ _ => rfl)) (pe_ix ix_tup (pe_fld (pv 1) rfl) pe_int (fun _ _ => rfl))))
  (pss_one (ps_ret (pe_make T.m_RawOffice (ok_RawOffice_init T) (hr.mono (by decide)) rfl T.g_RawOffice T.b_RawOffice_init .nil pass0 (pa_cons (pe_tup (pa_cons (pe_ix ix_tup (pe_fld (pv 0) rfl) pe_int (fun _ _ => rfl)) (pa_cons (pv 10) (pa_cons (pv 11) pa_nil)))) (pa_cons (pe_callTy call_tuple_of (by rfl) T.n_tuple (by decide +kernel) (pa_cons (pv 4) pa_nil)) (pa_cons (pe_callTy call_tuple_of (by rfl) T.n_tuple (by decide +kernel) (pa_cons (pv 5) pa_nil)) pa_nil)))))))))))))), ?_⟩
    refine ⟨_, rfl, p1, C1, dx1, _, _, rfl, A1.hp, oc1.c, oc1.n1, A1.fs1, z1, _, 1, _, rfl, rfl, SqT.of A1.hz, rfl, _, rfl, p2, C2, dx2, _, _, rfl, A2.hp, oc2.c, oc2.n1, A2.fs1, z2, _, 0, _, rfl, rfl, SqT.of A2.hz, rfl, _, _, rfl, rfl, _, rfl, ifF hsz' ?_⟩
    -- numbers, pairs, moves, closings
    intro nd hnd
    refine ⟨(by show 2 ≤ sizeLine; decide), fun t ht => ?_⟩
    have ntnd : t ≠ nd := fun z => by rw [z, upd_same] at ht; cases ht
    have k1 : Ke H (upd (upd (upd H nd (.dT [])) t (.tup [.int 0, .int 0])) nd (.dT [(keyI [0, 0], .int 0)])) := ((Ke.new hnd).trans (Ke.new ht)).mutNew hnd
    refine ⟨by rw [upd_ne ntnd.symm, upd_same], keyI [0, 0], t, rfl, by rw [upd_same]; rfl, ?_⟩
    generalize hH1 : upd (upd (upd H nd (.dT [])) t (.tup [.int 0, .int 0])) nd (.dT [(keyI [0, 0], .int 0)]) = H1 at k1
    have hnd1 : H1 nd = some (.dT [(keyI [0, 0], .int 0)]) := by rw [← hH1, upd_same]
    refine ⟨(by show 2 ≤ sizeLine; decide), fun t2 ht2 => ⟨(by show 1 ≤ sizeLine; decide), fun pl hpl => ⟨by decide, fun ml hml => ⟨by decide, fun cl hcl => ?_⟩⟩⟩⟩
    have k2 : Ke H1 (upd (upd H1 t2 (.tup [.int 0, .int 0])) pl (.lst [.ref t2])) := (Ke.new ht2).trans (Ke.new hpl)
    generalize hH2 : upd (upd H1 t2 (.tup [.int 0, .int 0])) pl (.lst [.ref t2]) = H2 at k2 hml hcl ⊢
    have hpl2 : H2 pl = some (.lst [.ref t2]) := by rw [← hH2, upd_same]
    have ht22 : H2 t2 = some (.tup [.int 0, .int 0]) := by
      rw [← hH2, upd_ne (fun z => by rw [← z, upd_same] at hpl; cases hpl), upd_same]
    have hpl1 : H1 pl = none := (Ke.new (o := .tup [.int 0, .int 0]) ht2).free hpl
    have k3 : Ke H2 (upd (upd H2 ml (.lst [])) cl (.lst [])) := (Ke.new hml).trans (Ke.new hcl)
    have hcl2 : H2 cl = none := (Ke.new (o := .lst []) hml).free hcl
    have hcl1 : H1 cl = none := k2.free hcl2
    have hml1 : H1 ml = none := k2.free hml
    have npm : pl ≠ ml := ne_of_none hpl2 hml
    have npc : pl ≠ cl := ne_of_none hpl2 hcl2
    have nmc : ml ≠ cl := ne_of_none (o := .lst []) (by rw [upd_same]) hcl
    have nnp : nd ≠ pl := ne_of_none hnd1 hpl1
    have nnm : nd ≠ ml := ne_of_none hnd1 hml1
    have nnc : nd ≠ cl := ne_of_none hnd1 hcl1
    have hnd0 : H nd = none := hnd
    have hpl0 : H pl = none := k1.free hpl1
    have hml0 : H ml = none := k1.free hml1
    have hcl0 : H cl = none := k1.free hcl1
    -- the loop
    refine while_by (fun σ H' => ∃ S : ChS, ChOk o1 o2 S ∧ runC o1 o2 (o1.mv.length * o2.mv.length - S.mv.length) S = endC o1 o2 ∧ (∃ s6 s7 s8 s9 s10 s11, σ = [some (.ref p1), some (.ref p2), some (.ref nd), some (.ref pl), some (.ref ml), some (.ref cl), s6, s7, s8, s9, s10, s11]) ∧
        Ke H H' ∧ NumAt H' nd S.ps ∧ (∃ ws, H' pl = some (.lst ws) ∧ Paired (TI H') ws S.ps) ∧ (∃ ws, H' ml = some (.lst ws) ∧ Paired (TT TI H') ws S.mv) ∧ ∃ ws, H' cl = some (.lst ws) ∧ Paired (TI H') ws S.cl)
      (fun σ H' => match H' ml with | some (.lst ws) => o1.mv.length * o2.mv.length - ws.length | _ => 0) ?_ ?_ ?_
    · refine ⟨S0, ChOk.init w1.n1 w2.n1, by simp [S0, endC], ⟨_, _, _, _, _, _, rfl⟩, (k1.trans k2).trans k3, ⟨_, k3.at (k2.at hnd1), rfl, fun g => ?_⟩, ⟨_, k3.at hpl2, .cons ⟨t2, rfl, k3.at ht22⟩ .nil⟩, ⟨[], by rw [upd_ne nmc, upd_same], .nil⟩, ⟨[], upd_same, .nil⟩⟩
      show valV [(keyI [0, 0], V.int 0)] (keyI g) = if g ∈ [[0, 0]] then _ else none
      by_cases c : g = [0, 0]
      · rw [if_pos (by simp [c]), valV_pos (by rw [c]), c]; rfl
      · rw [if_neg (by simpa using c), valV_neg (fun z => c (keyI_inj z).symm)]; rfl
    · rintro σ H3 ⟨S, ok, run, ⟨s6, s7, s8, s9, s10, s11, rfl⟩, k4, num, ⟨wp, hp3, pp⟩, ⟨wm, hm3, pm⟩, ⟨wc, hc3, pc⟩⟩
      have lp := plen pp
      have lm := plen pm
      have lc := plen pc
      have lps := pairs_le ok.nd ok.ok
      refine ⟨_, rfl, .ref ml, wm.length, rfl, .inl ⟨_, SqL.of hm3, rfl⟩, _, rfl, .ref pl, wp.length, rfl, .inl ⟨_, SqL.of hp3, rfl⟩, _, _, rfl, rfl, _, rfl, ?_⟩
      refine ite2 (fun c => ?_) (fun c => ?_)
      · have hlt : S.mv.length < S.ps.length := by have := of_decide_eq_true c; omega
        obtain ⟨q, hq⟩ : ∃ q, S.ps[S.mv.length]? = some q := ⟨_, List.getElem?_eq_getElem hlt⟩
        have hqm : q ∈ S.ps := List.mem_of_getElem? hq
        have pq := ok.ok q hqm
        obtain ⟨qv, hqv, rqv⟩ := pget pp hq
        have eq1 : S.ps.getD S.mv.length [] = q := by rw [List.getD_eq_getElem?_getD, hq]; rfl
        refine ⟨_, rfl, _, rfl, .ref ml, wm.length, rfl, .inl ⟨_, SqL.of hm3, rfl⟩, pl, wp, wm.length, qv, rfl, rfl, SqL.of hp3, atI_nat hqv (by omega), by decide, fun rl hrl => ?_⟩
        have k5 : Ke H3 (upd H3 rl (.lst [])) := Ke.new hrl
        have hrl0 : H rl = none := k4.free hrl
        have nrp : pl ≠ rl := ne_of_none hp3 hrl
        have nrm : ml ≠ rl := ne_of_none hm3 hrl
        have nrc : cl ≠ rl := ne_of_none hc3 hrl
        have nrn : nd ≠ rl := by obtain ⟨_, z, _⟩ := num; exact ne_of_none z hrl
        refine ⟨_, rfl, _, rfl, _, rfl, p1, p2, o1, o2, qv, q.getD 0 0, q.getD 1 0, rfl, (two.ke (k4.trans k5)).pair pq (TI.stb _ _ _ _ k5.tx rqv), jointM_len two.s1 two.s2 _ _, ?_⟩
        intro jl jw H5 njl k6 hjl pj
        have k45 : Ke H3 H5 := k5.trans k6
        have hrl5 : H5 rl = some (.lst []) := k6.at upd_same
        generalize hjs : sortP (jointM o1 o2 (q.getD 0 0) (q.getD 1 0)) = js at pj
        have ejs : jsC o1 o2 q = js := hjs
        have ljs : js.length < 1000000 := by rw [← hjs, len_sortP]; exact jointM_len two.s1 two.s2 _ _
        have okF : ∀ d : List (List Int × List Int), (∀ x ∈ d, x ∈ js) → (pairsC S.ps d).length ≤ 4000 := fun d hd => by
          refine Nat.le_trans (pairs_le (o1 := o1) (o2 := o2) (nodup_pairsC ok.nd) fun z hz => ?_) hn
          rcases mem_pairsC.mp hz with z | ⟨y, hy, rfl⟩
          · exact ok.ok _ z
          · exact jsC_ok (q := q) w1.goals w2.goals y (by rw [ejs]; exact hd y hy)
        have hSet : ∀ a, (a = nd ∨ a = pl ∨ a = rl) → H a = none := by
          rintro a (rfl | rfl | rfl)
          · exact hnd0
          · exact hpl0
          · exact hrl0
        have njl : ∀ a, (a = nd ∨ a = pl ∨ a = rl) → a ≠ jl := by
          obtain ⟨_, z, _⟩ := num
          rintro a (rfl | rfl | rfl)
          · exact ne_of_none (k5.at z) njl
          · exact ne_of_none (k5.at hp3) njl
          · exact ne_of_none (o := .lst []) upd_same njl
        have three : ∀ x ∈ js, x.1.length = 3 := fun x hx => by
          rw [← hjs] at hx
          obtain ⟨m, _, hx⟩ := List.mem_flatMap.mp (mem_sortP.mp hx)
          obtain ⟨m', _, rfl⟩ := List.mem_map.mp hx
          rfl
        have nmS : ¬ (ml = nd ∨ ml = pl ∨ ml = rl) := fun z => z.elim (fun z => nnm z.symm) fun z => z.elim (fun z => npm z.symm) nrm
        have ncS : ¬ (cl = nd ∨ cl = pl ∨ cl = rl) := fun z => z.elim (fun z => nnc z.symm) fun z => z.elim (fun z => npc z.symm) nrc
        refine ⟨jl, rfl, ⟨_, SqL.of hjl⟩, fo_L (R := PT H5) (fun d σ H' => (∃ s8 s9 s10 s11, σ = [some (.ref p1), some (.ref p2), some (.ref nd), some (.ref pl), some (.ref ml), some (.ref cl), some qv, some (.ref rl), s8, s9, s10, s11]) ∧ MidC H H5 nd pl rl (pairsC S.ps d) H' ∧ ∃ rs, H' rl = some (.lst rs) ∧ Paired (TI H') rs (rowC (pairsC S.ps js) d)) pj
          ⟨⟨_, _, _, _, rfl⟩, ⟨.refl, k4.trans k45, num.ke k45, wp, k45.at hp3, pimp (fun v x r => TI.stb _ _ v x k45.tx r) pp⟩, [], hrl5, .nil⟩ (fun d σ H' p => p.2.1.1.keep _ _ (fun z => njl _ z rfl) hjl) ?_ ?_⟩
        · rintro d x r v σ H6 e ⟨a, u, w', rfl, ha5, ⟨ua, rfl, hua5⟩, ⟨ga, rfl, hga5⟩⟩ ⟨⟨s8, s9, s10, s11, rfl⟩, ⟨ks6, k06, ⟨kvs, hnd6, lkv, fkv⟩, ws6, hpl6, pp6⟩, rs, hrl6, prs⟩
          have ha6 := ks6.tup _ _ ha5
          have hua6 := ks6.tup _ _ hua5
          have hga6 := ks6.tup _ _ hga5
          have lpd := okF d (fun y hy => by rw [e]; simp [hy])
          have lws := plen pp6
          have e1 : pairsC S.ps (d ++ [x]) = addk (pairsC S.ps d) x.2 := by rw [pairsC_append]; rfl
          have e2 : pairsC (pairsC S.ps (d ++ [x])) r = pairsC S.ps js := by rw [← pairsC_append, e]; simp
          refine ⟨a, _, rfl, SqT.of ha6, rfl, _, _, rfl, _, _, rfl, rfl, ?_⟩
          have dg : DGet H6 nd (.ref ga) (valV kvs (keyI x.2)) := DGet.t hnd6 (by rw [keyI_kV]; exact hga6)
          refine ⟨_, rfl, _, rfl, nd, _, rfl, dg, _, rfl, ?_⟩
          rw [fkv]
          have nSet : ∀ {H' : Hp} {a : Addr} {xs : List V}, H' a = some (.lst xs) → ∀ ys, H' a ≠ some (.tup ys) := fun h ys z => by rw [h] at z; cases z
          rcases Classical.em (x.2 ∈ pairsC S.ps d) with hg | hg
          case' inl =>
            rw [if_pos hg]
            refine iteF ?_
            have F : MidC H H5 nd pl rl (pairsC S.ps (d ++ [x])) H6 ∧ H6 rl = some (.lst rs) ∧ Tx H6 H6 := by
              rw [e1]; unfold addk; rw [if_pos hg]
              exact ⟨⟨ks6, k06, ⟨kvs, hnd6, lkv, fkv⟩, ws6, hpl6, pp6⟩, hrl6, .refl⟩
          case' inr =>
            rw [if_neg hg]
            refine iteT ?_
            refine ⟨_, rfl, .ref pl, ws6.length, rfl, .inl ⟨_, SqL.of hpl6, rfl⟩, _, rfl, _, rfl, nd, _, rfl, DPut.t (k := keyI x.2) hnd6 (by rw [keyI_kV]; exact hga6) (by rw [sizeLine_eq]; omega), ?_⟩
            have hpl7 : (upd H6 nd (.dT (putK kvs (keyI x.2) (.int ws6.length)))) pl = some (.lst ws6) := by rw [upd_ne nnp.symm]; exact hpl6
            refine ⟨_, rfl, .inl ⟨rfl, _, SqL.of hpl7⟩, _, rfl, pl, ws6, _, rfl, rfl, hpl7, by rw [sizeLine_eq]; omega, ?_⟩
            have F : MidC H H5 nd pl rl (pairsC S.ps (d ++ [x])) (upd (upd H6 nd (.dT (putK kvs (keyI x.2) (.int ws6.length)))) pl (.lst (ws6 ++ [.ref ga]))) ∧ (upd (upd H6 nd (.dT (putK kvs (keyI x.2) (.int ws6.length)))) pl (.lst (ws6 ++ [.ref ga]))) rl = some (.lst rs) ∧ Tx H6 (upd (upd H6 nd (.dT (putK kvs (keyI x.2) (.int ws6.length)))) pl (.lst (ws6 ++ [.ref ga]))) := by
              have tx : Tx H6 (upd (upd H6 nd (.dT (putK kvs (keyI x.2) (.int ws6.length)))) pl (.lst (ws6 ++ [.ref ga]))) := ⟨fun a xs h => by
                rw [upd_ne (ne_of h hpl6 (fun z => nomatch z)), upd_ne (ne_of h hnd6 (fun z => nomatch z))]; exact h⟩
              rw [e1]; unfold addk; rw [if_neg hg]
              refine ⟨⟨(ks6.mut (.inl rfl) (fun ys z => by rw [hnd6] at z; cases z)).mut (.inr (.inl rfl)) (nSet hpl7), (k06.mutNew hnd0).mutNew hpl0, ⟨_, by rw [upd_ne nnp, upd_same], ?_, ?_⟩, _, upd_same, papp (pimp (fun v x r => TI.stb _ _ v x tx r) pp6) (.cons ⟨ga, rfl, tx.tup _ _ hga6⟩ .nil)⟩, by rw [upd_ne nrp.symm, upd_ne nrn.symm]; exact hrl6, tx⟩
              · exact num_len hg lkv fkv
              · rw [lws]; exact num_put hg fkv
          all_goals
            obtain ⟨⟨ks7, k07, ⟨kvs7, hnd7, lkv7, fkv7⟩, ws7, hpl7, pp7⟩, hrl7, tx7⟩ := F
            have hua7 := tx7.tup _ _ hua6
            have hga7 := tx7.tup _ _ hga6
            have mx : x.2 ∈ pairsC S.ps (d ++ [x]) := mem_pairsC.mpr (.inr ⟨x, by simp, rfl⟩)
            have fx : valV kvs7 (keyI x.2) = some (.int ((pairsC S.ps js).idxOf x.2 : Nat)) := by rw [fkv7, if_pos mx, ← e2, idx_pre mx]
            have lrs : rs.length ≤ d.length := by have := plen prs; unfold rowC at this; rw [List.length_map] at this; omega
            have ld : d.length < js.length := by rw [e]; simp
            have tx1 := three x (by rw [e]; simp)
            refine ⟨_, rfl, .inl ⟨rfl, _, SqL.of hrl7⟩, _, rfl, _, rfl, _, rfl, nd, _, rfl, by rw [← fx]; exact DGet.t hnd7 (by rw [keyI_kV]; exact hga7), (by show 1 ≤ sizeLine; decide), fun t ht => ⟨ua, t, _, _, rfl, rfl, SqT.of ((Ke.new ht).at hua7), SqT.of upd_same, (by rw [List.length_map, tx1]; show 4 ≤ sizeLine; decide), (fun z => by have := congrArg List.length z; rw [List.length_map, tx1] at this; cases this), (fun _ z => by cases z), fun _ _ t' ht' => ?_⟩⟩
            have k8 := (Ke.new (o := .tup [V.int ((pairsC S.ps js).idxOf x.2 : Nat)]) ht).trans (Ke.new (o := .tup (x.1.map V.int ++ [V.int ((pairsC S.ps js).idxOf x.2 : Nat)])) ht')
            refine ⟨rl, rs, _, rfl, rfl, k8.at hrl7, by rw [sizeLine_eq]; omega, ?_⟩
            have tx8 := snoc_tx (ws := rs ++ [.ref t']) k8.tx hrl7
            refine ⟨⟨_, _, _, _, rfl⟩, ⟨(ks7.trans k8.ks).mut (.inr (.inr rfl)) (nSet (k8.at hrl7)), (k07.trans k8).mutNew hrl0, ⟨kvs7, by rw [upd_ne nrn]; exact k8.at hnd7, lkv7, fkv7⟩, ws7, by rw [upd_ne nrp]; exact k8.at hpl7, pimp (fun v x r => TI.stb _ _ v x tx8 r) pp7⟩, _, upd_same, ?_⟩
            have er : rowC (pairsC S.ps js) (d ++ [x]) = rowC (pairsC S.ps js) d ++ [x.1 ++ [(((pairsC S.ps js).idxOf x.2 : Nat) : Int)]] := by unfold rowC; simp
            rw [er]
            refine papp (pimp (fun v x r => TI.stb _ _ v x (tx7.trans tx8) r) prs) (.cons ⟨t', rfl, ?_⟩ .nil)
            rw [upd_ne (fun z => by rw [z, (Ke.new (o := .tup [V.int ((pairsC S.ps js).idxOf x.2 : Nat)]) ht).at hrl7] at ht'; cases ht'), upd_same, List.map_append]
            rfl
        · rintro σ H6 ⟨⟨s8, s9, s10, s11, rfl⟩, ⟨ks6, k06, num6, ws6, hpl6, pp6⟩, rs, hrl6, prs⟩
          have hm6 : H6 ml = some (.lst wm) := ks6.keep _ _ nmS (k45.at hm3)
          have hc6 : H6 cl = some (.lst wc) := ks6.keep _ _ ncS (k45.at hc3)
          have txm : Tx H3 H6 := k45.tx.trans ks6.tx
          have wmle : wm.length ≤ 4000 := by omega
          -- moves.append(tuple(sorted(row)))
          refine ⟨_, rfl, .inl ⟨rfl, _, SqL.of hm6⟩, _, rfl, rl, rs, List Int, TI H6, tI, _, rfl, SqL.of hrl6, prs, fun v b r => TI.enc K H6 v b r, ok_T rowC_ne, fun p out hp po => ⟨p, out, rfl, .inl ⟨SqL.of upd_same, fun t ht => ?_⟩⟩⟩
          have k7 := (Ke.new (o := .lst out) hp).trans (Ke.new (o := .tup out) ht)
          refine ⟨ml, wm, _, rfl, rfl, k7.at hm6, by rw [sizeLine_eq]; omega, ?_⟩
          have k8 : Ke H (upd (upd (upd H6 p (.lst out)) t (.tup out)) ml (.lst (wm ++ [.ref t]))) := (k06.trans k7).mutNew hml0
          have tx8 := snoc_tx (ws := wm ++ [.ref t]) k7.tx hm6
          have hc8 : (upd (upd (upd H6 p (.lst out)) t (.tup out)) ml (.lst (wm ++ [.ref t]))) cl = some (.lst wc) := by rw [upd_ne nmc.symm]; exact k7.at hc6
          -- closings.append(joint_lasts(..))
          refine ⟨_, rfl, .inl ⟨rfl, _, SqL.of hc8⟩, _, rfl, _, rfl, _, rfl, p1, p2, o1, o2, qv, q.getD 0 0, q.getD 1 0, rfl, (two.ke k8).pair pq (TI.stb _ _ _ _ (txm.trans tx8) rqv), jointL_len two.s1 two.s2 _ _, fun v H9 k9 tv => ?_⟩
          refine ⟨cl, wc, _, rfl, rfl, k9.at hc8, by have := ok.cl; rw [sizeLine_eq]; omega, ?_⟩
          have tx10 := snoc_tx (ws := wc ++ [v]) k9.tx hc8
          have hmF : (upd H9 cl (.lst (wc ++ [v]))) ml = some (.lst (wm ++ [.ref t])) := by rw [upd_ne nmc]; exact k9.at upd_same
          have eS : stepC o1 o2 S = ⟨pairsC S.ps js, S.mv ++ [sortT (rowC (pairsC S.ps js) js)], S.cl ++ [sortI (jointL o1 o2 (q.getD 0 0) (q.getD 1 0))]⟩ := by unfold stepC; simp only [eq1, ejs]
          have ok' := ok.step w1.goals w2.goals (jointM_len two.s1 two.s2) (jointL_len two.s1 two.s2) hlt
          have run' := (runC_step hlt (n := o1.mv.length * o2.mv.length - S.mv.length) (by omega)).symm.trans run
          rw [eS] at ok' run'
          have ht8 : (upd (upd (upd H6 p (.lst out)) t (.tup out)) ml (.lst (wm ++ [.ref t]))) t = some (.tup out) := by
            rw [upd_ne (fun z => by rw [z, (Ke.new (o := .lst out) hp).at hm6] at ht; cases ht), upd_same]
          have npnp : nd ≠ pl := nnp
          refine ⟨⟨_, ok', ?_, ⟨_, _, _, _, _, _, rfl⟩, (k8.trans k9).mutNew hcl0, ?_, ⟨ws6, ?_, pimp (fun v x r => TI.stb _ _ v x (tx8.trans tx10) r) pp6⟩, ⟨_, hmF, papp (pimp (fun v x r => TT.stb TI.stb _ _ v x ((txm.trans tx8).trans tx10) r) pm) (.cons ⟨t, out, rfl, tx10.tup _ _ ht8, pimp (fun v x r => TI.stb _ _ v x ((Ke.new (o := .lst out) hp).tx.trans ((Ke.new (o := .tup out) ht).tx.trans (snoc_tx (ws := wm ++ [.ref t]) .refl (k7.at hm6)|>.trans tx10))) r) po⟩ .nil)⟩, ⟨_, upd_same, papp (pimp (fun v x r => TI.stb _ _ v x ((txm.trans tx8).trans tx10) r) pc) (.cons (TI.stb _ _ _ _ (snoc_tx .refl (k9.at hc8)) tv) .nil)⟩⟩, ?_⟩
          · rw [← run']
            congr 1
            show _ - (S.mv ++ [_]).length = _
            simp only [List.length_append, List.length_singleton]; omega
          · obtain ⟨kv, z1, z2, z3⟩ := num6
            exact ⟨kv, by rw [upd_ne nnc]; exact k9.at (by rw [upd_ne nnm]; exact k7.at z1), z2, z3⟩
          · rw [upd_ne npc]; exact k9.at (by rw [upd_ne npm]; exact k7.at hpl6)
          · show (match (upd H9 cl (.lst (wc ++ [v]))) ml with | some (.lst ws) => o1.mv.length * o2.mv.length - ws.length | _ => 0) < (match H3 ml with | some (.lst ws) => o1.mv.length * o2.mv.length - ws.length | _ => 0)
            rw [hmF, hm3]
            show _ - (wm ++ [_]).length < _ - wm.length
            simp only [List.length_append, List.length_singleton]; omega
      · have hlt : ¬ S.mv.length < S.ps.length := fun z => c (decide_eq_true (by omega))
        have eE : S = endC o1 o2 := by rw [← run, runC_done hlt]
        have eM : chainM o1 o2 = ⟨[x1, y1 * y2, v1 * v2], S.mv, S.cl⟩ := by unfold chainM; rw [← eE, A1.ez, A2.ez]; rfl
        rw [eM] at k
        -- answers, marks
        refine ⟨_, rfl, p1, C1, dx1, _, _, rfl, k4.at A1.hp, oc1.c, oc1.n1, A1.fs1, z1, _, 1, _, rfl, rfl, SqT.of (k4.at A1.hz), rfl, _, rfl, p2, C2, dx2, _, _, rfl, k4.at A2.hp, oc2.c, oc2.n1, A2.fs1, z2, _, 1, _, rfl, rfl, SqT.of (k4.at A2.hz), rfl, _, _, rfl, rfl, .inl (by omega), ?_⟩
        refine ⟨_, rfl, p1, C1, dx1, _, _, rfl, k4.at A1.hp, oc1.c, oc1.n1, A1.fs1, z1, _, 2, _, rfl, rfl, SqT.of (k4.at A1.hz), rfl, _, rfl, p2, C2, dx2, _, _, rfl, k4.at A2.hp, oc2.c, oc2.n1, A2.fs1, z2, _, 2, _, rfl, rfl, SqT.of (k4.at A2.hz), rfl, _, _, rfl, rfl, .inl (by omega), ?_⟩
        refine ⟨_, rfl, p1, C1, dx1, _, _, rfl, k4.at A1.hp, oc1.c, oc1.n1, A1.fs1, z1, _, 0, _, rfl, rfl, SqT.of (k4.at A1.hz), rfl, _, rfl, _, rfl, (by show 3 ≤ sizeLine; decide), fun sa hsa => ?_⟩
        have k5 := k4.trans (Ke.new (o := .tup [.int x1, .int (y1 * y2), .int (v1 * v2)]) hsa)
        refine ⟨_, rfl, ml, wm, rfl, .inl ⟨SqL.of ((Ke.new hsa).at hm3), fun ma hma => ?_⟩⟩
        refine ⟨_, rfl, cl, wc, rfl, .inl ⟨SqL.of ((Ke.new hma).at ((Ke.new hsa).at hc3)), fun ca hca => fun x dx hx hdx ndx => ?_⟩⟩
        have k6 : Ke H3 _ := ((((Ke.new (o := .tup [.int x1, .int (y1 * y2), .int (v1 * v2)]) hsa).trans (Ke.new (o := .tup wm) hma)).trans (Ke.new (o := .tup wc) hca)).trans (Ke.new (o := .own x) hdx)).trans (Ke.new (p := x) (o := .ins T.a_RawOffice dx []) (by rw [upd_ne ndx.symm]; exact hx))
        generalize hHF : upd (upd (upd (upd (upd H3 sa (.tup [.int x1, .int (y1 * y2), .int (v1 * v2)])) ma (.tup wm)) ca (.tup wc)) dx (.own x)) x (.ins T.a_RawOffice dx []) = HF at k6 ⊢
        have hx0 : H x = none := by
          refine k4.free ((((Ke.new (o := .tup [.int x1, .int (y1 * y2), .int (v1 * v2)]) hsa).trans (Ke.new (o := .tup wm) hma)).trans (Ke.new (o := .tup wc) hca)).free hx)
        have n1 : x ≠ sa := fun z => by
          rw [z] at hx
          exact absurd hx ((((Ke.new (o := .tup wm) hma).trans (Ke.new (o := .tup wc) hca)).there sa (by rw [upd_same]; simp)))
        have n2 : x ≠ ma := fun z => by
          rw [z] at hx
          exact absurd hx ((Ke.new (o := .tup wc) hca).there ma (by rw [upd_same]; simp))
        have n3 : x ≠ ca := fun z => by rw [z, upd_same] at hx; cases hx
        have d1 : dx ≠ sa := fun z => by
          rw [z] at hdx
          exact absurd hdx ((((Ke.new (o := .tup wm) hma).trans (Ke.new (o := .tup wc) hca)).there sa (by rw [upd_same]; simp)))
        have d2 : dx ≠ ma := fun z => by
          rw [z] at hdx
          exact absurd hdx ((Ke.new (o := .tup wc) hca).there ma (by rw [upd_same]; simp))
        have d3 : dx ≠ ca := fun z => by rw [z, upd_same] at hdx; cases hdx
        have s1 : sa ≠ ma := fun z => by rw [← z, upd_same] at hma; cases hma
        have s2 : sa ≠ ca := fun z => by rw [← z, upd_ne s1, upd_same] at hca; cases hca
        have s3 : ma ≠ ca := fun z => by rw [← z, upd_same] at hca; cases hca
        have hsF : HF sa = some (.tup [.int x1, .int (y1 * y2), .int (v1 * v2)]) := by rw [← hHF, upd_ne n1.symm, upd_ne d1.symm, upd_ne s2, upd_ne s1, upd_same]
        have hmF : HF ma = some (.tup wm) := by rw [← hHF, upd_ne n2.symm, upd_ne d2.symm, upd_ne s3, upd_same]
        have hcF : HF ca = some (.tup wc) := by rw [← hHF, upd_ne n3.symm, upd_ne d3.symm, upd_same]
        refine ⟨No, x, dx, .ref sa, .ref ma, .ref ca, [x1, y1 * y2, v1 * v2], S.mv, S.cl, rfl, by rw [← hHF, upd_same], (fun z => z), (fun _ z => z.elim), ?_, ?_, ?_, ?_, fun H' ks o => ⟨rfl, ?_⟩⟩
        · rw [Hd.no]; exact ⟨sa, rfl, hsF⟩
        · rw [Hd.no]; exact ⟨ma, wm, rfl, hmF, pimp (fun v x r => TT.stb TI.stb _ _ v x k6.tx r) pm⟩
        · rw [Hd.no]; exact ⟨ca, wc, rfl, hcF, pimp (fun v x r => TI.stb _ _ v x k6.tx r) pc⟩
        · exact ⟨ok.four, by have := ok.le; show S.mv.length < 1000000; omega⟩
        · rw [Hd.no] at o
          exact k x H' (Ke.then (k4.trans k6) ks fun a z => by rw [z]; exact hx0) o
    · intro σ H' Q Q' hq h
      obtain ⟨v, e1, x, n, e2, l1, v', e3, x', n', e4, l2, i, j, e5, e6, b, e7, q⟩ := h
      exact ⟨v, e1, x, n, e2, l1, v', e3, x', n', e4, l2, i, j, e5, e6, b, e7, hq _ _ q⟩
end
end Fd
set_option Elab.async false
set_option linter.all false
set_option maxRecDepth 100000
set_option maxHeartbeats 4000000
/-! sorted of a dict with tuple keys; what is never called; min of data; repr of data. -/
namespace Fd
open PySem PySem.Spec PyProof.Rows L2 PySem.W
section
variable {X : Cx}
/-- sorted(d), the keys tuples of ints -/
def rSortDT : List V → Hp → VK → Prop := fun xs H Q => ∃ (a : Addr) (kvs : List (List Key × V)) (ks : List (List Int)), xs = [.ref a] ∧ Rd H a (.dT kvs) ∧ kvs.map (·.1) = ks.map (fun k => k.map Sum.inl) ∧ (∀ k ∈ ks, k ≠ []) ∧
  ∀ p out, H p = none → Paired (TI H) out (sortT ks) → Q (.ref p) (upd H p (.lst out))
theorem isKeys_TI {H : Hp} : ∀ {kvs : List (List Key × V)} {ks : List (List Int)} {bs : List Addr}, IsKeys H kvs bs → kvs.map (·.1) = ks.map (fun k => k.map Sum.inl) → Paired (TI H) (bs.map V.ref) ks
  | [], [], _, .nil, _ => .nil
  | [], _ :: _, _, _, e => by simp at e
  | _ :: _, [], _, _, e => by simp at e
  | p :: kvs, k :: ks, _, .cons h t, e => by
    simp only [List.map_cons, List.cons.injEq] at e
    refine .cons ⟨_, rfl, ?_⟩ (isKeys_TI t e.2)
    rw [h, e.1, List.map_map]
    rfl
theorem cr_sortedDT {k : Nat} (hcalm : X.calm = true) (hr : Room k X.A) : CallR X (.builtin "sorted") rSortDT := by
  intro pins s σ H xs us Q I r h
  obtain ⟨d, kvs, nk, rfl, hd, ek, hne, q⟩ := h
  obtain ⟨u, rfl, rx⟩ := r.one
  cases rx
  obtain ⟨z, hs, ks, pr, o, es, ep, ho, hx, hdt, he, hn⟩ := (show ObjOk X.prog X.w H s.heap d (.dT kvs) from hd.ok I.hok)
  have l1 : es.size = ks.length := size_of_entries he
  have l2 : kvs.length = ks.length := Paired.length pr
  have l3 : kvs.length = nk.length := by have := congrArg List.length ek; simpa using this
  refine Calls.call_function_entry PyProof.Rows.kind_sorted PyProof.Rows.plain_sorted PyProof.Rows.entry_sorted (PyProof.Rows.args_sorted1 _) ?_
  unfold Builtin.«sorted»
  refine wpAny_bind (m := checkCount "sorted" 1 1 _) (wpAny_pure ?_)
  refine wpAny_bind (kdu_collect (A := X.A.in1) (kdl_raw hs hx hdt) (I.ok.hd hcalm) ho (by omega) fun h' tk acc hk it => ?_)
  have eb : acc.toList = (ks.map fun x => x.2.1).map Value.ref := by
    have hl : acc.toList.length = ks.length := by rw [Array.length_toList, it.1]; exact l1
    apply List.ext_getElem?
    intro j
    rw [List.map_map, List.getElem?_map]
    cases hj : acc.toList[j]? with
    | none =>
      have h1 := List.getElem?_eq_none_iff.mp hj
      rw [List.getElem?_eq_none (by omega)]
      all_goals rfl
    | some v =>
      obtain ⟨en, hen, hv⟩ := it.2 j v (by rw [← Array.getElem?_toList]; exact hj)
      have qe := entry_at he j
      rw [hen] at qe
      cases hb : ks[j]? with
      | none =>
        rw [hb] at qe
        exact nomatch (show some en = none from qe)
      | some b =>
        rw [hb] at qe
        have e2 : en = entryOfKey (tupleKind (mixKind X.prog X.w)) b := Option.some.inj qe
        rw [hv, e2]
        all_goals rfl
  have rv : Vals ((ks.map fun x => x.2.1).map V.ref) acc.toList := by rw [eb]; exact vals_refs _
  have pt : Paired (TI H) ((ks.map fun x => x.2.1).map V.ref) nk := isKeys_TI (isKeys_of pr) ek
  have hal : acc.toList.length = nk.length := by rw [← rv.length, plen pt]
  have hL : acc.toList.length ≤ sizeLine := by omega
  have I1 : Inv X pins σ H { s with heap := h', toks := tk } := I.kept hk
  refine wpAny_bind (wpAny_newList ?_ hL)
  have hoL : (h'.push (seqObj "list" acc.toList.toArray 0)).get? h'.objs.size = some (seqObj "list" acc.toList.toArray 0) := Heap.get?_push_size _ rfl
  show wpAny _ _ _ _ _ { s with heap := h'.push (seqObj "list" acc.toList.toArray 0), toks := tk }
  have ok := ok_T hne
  have E := each_of rv pt
  have old : ∀ {b : Addr} {ob : Obj}, h'.get? b = some ob → (sortingHeap (h'.push (seqObj "list" acc.toList.toArray 0)) h'.objs.size acc.toList).get? b = some ob := fun {b ob} e =>
    sortingHeap_old (Nat.ne_of_lt (Heap.lt_size e)) (Heap.get?_push_of_some _ e)
  have er : EachIs (fun v b => ∃ as, Reads (sortingHeap (h'.push (seqObj "list" acc.toList.toArray 0)) h'.objs.size acc.toList) v (tI b) as) acc.toList nk := E.mono fun u b ⟨v, r1, r2⟩ => by
    obtain ⟨as, r⟩ := Dp.reads I1 (tI b) v u (TI.enc X.K H v b r2) r1
    exact ⟨as, PyProof.Rows.Reads.keeps (fun _ _ => old) r⟩
  have hu : ∀ b, b ∈ nk → X.A.in1.in1.units + (tI b).depth < cLine := fun b hb => by
    have h1 := ok.dp b hb
    have h2 := hr.un
    show X.A.units + 2 + _ < _
    omega
  refine wpAny_bind (wpAny_holding (wpAny_call_entry PyProof.Rows.slot_list_sort ⟨_, hoL, rfl⟩ PyProof.Rows.entry_list_sort
    (list_sort_vals (s := { s with heap := h'.push (seqObj "list" acc.toList.toArray 0), toks := tk }) hoL
      (SortsAt.data (s := { s with heap := sortingHeap (h'.push (seqObj "list" acc.toList.toArray 0)) h'.objs.size acc.toList, toks := tk }) (each_map (R := fun v d => ∃ as, Reads (sortingHeap (h'.push (seqObj "list" acc.toList.toArray 0)) h'.objs.size acc.toList) v d as) tI er) ok.al ok.so (bound_map hu)) hL ⟨_, rfl, ?_⟩) (PyProof.Rows.args_list_sort _)))
  have eo := sortVals_data (R := fun u b => ∃ v, RelV v u ∧ TI H v b) false E er ok.al
  generalize hout : sortVals _ false acc.toList acc.toList = out at eo ⊢
  obtain ⟨ws, w1, w2⟩ := each_back eo
  obtain ⟨e', he'⟩ := PyProof.Rows.sortedHeap_at (vs := acc.toList) (out := out.toArray) hoL
  have hlen : ws.length ≤ sizeLine := by
    rw [plen w2]
    have := len_sortT (bs := nk)
    unfold sortT at this
    omega
  refine wpAny_pure ⟨_, rfl, .ref h'.objs.size, upd H h'.objs.size (.lst ws), I1.laid (t' := tk) (fun b u e => ?_) (Nat.le_refl _)
    (show ObjOk X.prog X.w _ _ _ (.lst ws) from ⟨hlen, out, e', w1, he'⟩), rfl, q _ ws (I1.hok.fresh (Nat.le_refl _)) w2⟩
  have hb : b < h'.objs.size := Heap.lt_size e
  rw [PyProof.Rows.sortedHeap_old (Nat.ne_of_lt hb) (by rw [size_push']; exact Nat.lt_succ_of_lt hb)]
  exact Heap.get?_push_of_some _ e
/-- a tuple of targets within a comprehension -/
theorem pg_tupK (K : Frag) (hK : X.K = K) {es : List Expr} {k : Nat} {pos : Pos} {t : TGs} {n : Nat} (hc : X.calm = true) (h : PGs X es t)
    (hn : (assignEach es X.env).length = n := by rfl) (hst : (assignEach es X.env).findIdx? (·.1) = none := by rfl) : PG X (.Tuple es k pos) (gTup K n t) := by
  rw [← hK]; exact pg_tup hc h hn hst
/-- a built-in's method within a comprehension -/
theorem pe_bmK (K : Frag) (hK : X.K = K) {name : Str} {r : V → List V → Hp → VK → Prop} {o e : Expr} {es : List Expr} {apos cpos : Pos} {to : TE} {t : TA} {T : String} (h : PE X (.Call (.Attribute o name apos) (e :: es) [] cpos) (tBM X.K T r to t)) :
    PE X (.Call (.Attribute o name apos) (e :: es) [] cpos) (tBM K T r to t) := by rw [← hK]; exact h
theorem op_in_seqK (K : Frag) (h : X.K = K) : OpR X (compareOp .In) (rIn K false) := by rw [← h]; exact op_in_seq
theorem op_notIn_seqK (K : Frag) (h : X.K = K) : OpR X (compareOp .NotIn) (rIn K true) := by rw [← h]; exact op_notIn_seq
theorem sl_tupAK (K : Frag) (h : X.K = K) : SlR X (rSlA K) := by rw [← h]; exact sl_tupA
theorem tuple_ofK (K : Frag) (h : X.K = K) : CallR X (.type "tuple") (fun xs H Q => ∃ p ys, xs = [.ref p] ∧ ((SqL K H p ys ∧ ∀ l, H l = none → Q (.ref l) (upd H l (.tup ys))) ∨ (SqT K H p ys ∧ Q (.ref p) H))) := by rw [← h]; exact call_tuple_of
/-- a call that is never reached -/
theorem cr_never (f : Value) : CallR X f (fun _ _ _ => False) := fun _ _ _ _ _ _ _ _ _ h => h.elim
end
end Fd
set_option Elab.async false
set_option linter.all false
set_option maxRecDepth 100000
set_option maxHeartbeats 4000000
namespace Fd
open PySem PySem.Spec PyProof.Rows L2
theorem p629 : (0 : Int) < 2147483629 := by decide
theorem p647 : (0 : Int) < 2147483647 := by decide
theorem p399 : (0 : Int) < 2147483399 := by decide
abbrev hand5 (ca : Addr) (i b s c : Int) : List V := [.ref ca, .int i, .int b, .int s, .int c]
/-- the drawing hand at hd, its numbers at ca -/
def HandAt (H : Hp) (hd ca : Addr) : Prop := ∃ (cells : List Int) (i b s c : Int), H hd = some (.lst (hand5 ca i b s c)) ∧ H ca = some (.lst (cells.map V.int)) ∧ 0 ≤ i
theorem HandAt.ne {H : Hp} {hd ca : Addr} (x : HandAt H hd ca) : ca ≠ hd := by
  obtain ⟨cells, i, b, s, c, h1, h2, _⟩ := x
  intro e
  rw [e, h1] at h2
  injection h2 with h2
  injection h2 with h2
  cases cells with
  | nil => cases h2
  | cons y r => injection h2 with h2; cases h2
theorem HandAt.ke {H H' : Hp} {hd ca : Addr} (x : HandAt H hd ca) (k : Ke H H') : HandAt H' hd ca := by
  obtain ⟨cells, i, b, s, c, h1, h2, h3⟩ := x
  exact ⟨cells, i, b, s, c, k.at h1, k.at h2, h3⟩
theorem HandAt.mut {H : Hp} {hd ca a : Addr} {o : HO} (x : HandAt H hd ca) (n1 : a ≠ hd) (n2 : a ≠ ca) : HandAt (upd H a o) hd ca := by
  obtain ⟨cells, i, b, s, c, h1, h2, h3⟩ := x
  exact ⟨cells, i, b, s, c, by rw [upd_ne n1.symm]; exact h1, by rw [upd_ne n2.symm]; exact h2, h3⟩
theorem HandAt.there {H : Hp} {hd ca : Addr} (x : HandAt H hd ca) : H hd ≠ none ∧ H ca ≠ none := by
  obtain ⟨cells, i, b, s, c, h1, h2, h3⟩ := x
  rw [h1, h2]; simp
theorem HandAt.tx {H : Hp} {hd ca : Addr} (x : HandAt H hd ca) : Tx H (Hd (fun a => a = hd) H) := by
  obtain ⟨cells, i, b, s, c, h1, _⟩ := x
  exact ⟨fun a xs h => Hd.get (fun e => by rw [e, h1] at h; cases h) h⟩
theorem HandAt.ks {S : Addr → Prop} {H H' : Hp} {hd ca : Addr} (x : HandAt H hd ca) (k : Ks S H H') (n1 : ¬ S hd) (n2 : ¬ S ca) : HandAt H' hd ca := by
  obtain ⟨cells, i, b, s, c, h1, h2, h3⟩ := x
  exact ⟨cells, i, b, s, c, k.keep _ _ n1 h1, k.keep _ _ n2 h2, h3⟩
def sp_draw : Sp := fun xs H Q _ => ∃ hd ca many, xs = [.ref hd, .int many] ∧ HandAt H hd ca ∧ (1 ≤ many ∧ many ≤ 1000) ∧ ∀ r H', 0 ≤ r → r < many → Ks (fun a => a = hd) H H' → HandAt H' hd ca → Q (.int r) H'
def sp_hand (K : PySem.W.Frag) : Sp := fun xs H Q _ => ∃ (a : Addr) (ns : List Int), xs = [.ref a] ∧ SqL K H a (ns.map V.int) ∧ ns.length ≤ 63 ∧ ∀ hd ca H', H hd = none → H ca = none → Ke H H' → HandAt H' hd ca → Q (.ref hd) H'
def sp_sizes : Sp := fun xs H Q _ => ∃ hd ca most, xs = [.ref hd, .int most] ∧ HandAt H hd ca ∧ (1 ≤ most ∧ most ≤ 1000) ∧ ∀ v a b c H', (1 ≤ a ∧ a ≤ most) → (1 ≤ b ∧ b ≤ most) → (1 ≤ c ∧ c ≤ most) → Ks (fun a => a = hd) H H' → HandAt H' hd ca → TI H' v [a, b, c] → Q v H'
section
variable {P : Program} {w : World} {K : PySem.W.Frag} {mg : Str → Option Value} {base : Heap} (T : Txt K mg)
include T
theorem ok_l_draw : FnOk P w K mg base CX0 1 T.a_l_draw T.d_l_draw P_l_draw sp_draw := by
  refine T.F_l_draw.ok sc_l_draw (fun vs H Q E h => ?_) (fun cdv A outer s H vs Q E hr h => ?_)
  · obtain ⟨hd, ca, many, rfl, _⟩ := h; rfl
  · obtain ⟨hd, ca, many, rfl, hA, hm, k⟩ := h
    have hne := hA.ne
    obtain ⟨cells, i, b, s0, c, hh, hca, hi⟩ := hA
    refine ⟨_, (pss_cons (ps_if (PW.pt (pw_and (pt_cmpR op_eq (pe_ix ix_list (pv 0) pe_int (fun _ _ => rfl)) pe_int (nomark _)) (pw_and1 (pt_cmpR op_lt (pe_ix ix_list (pv 0) pe_int (fun _ _ => rfl)) (pe_callB call_len (by rfl) T.n_len (by decide +kernel) (pa_cons (pe_ix ix_list (pv 0) pe_int (fun _ _ => rfl)) pa_nil)) (nomark _))))) (pss_cons (ps_set (i := 2) sc_l_draw.nd rfl (Or.inl rfl) (pe_ix ix_list (pe_ix ix_list (pv 0) pe_int (fun _ _ => rfl)) (pe_ix ix_list (pv 0) pe_int (fun _ _ => rfl)) (fun _ _ => rfl)))
  (pss_cons (ps_asg (pe_op op_add (pe_ix ix_list (pv 0) pe_int (fun _ _ => rfl)) pe_int) (pg_sub (pv 0) pe_int set_list))
  (pss_cons (ps_asg (pe_op op_mod (pe_callTy call_int1 (by rfl) T.n_int (by decide +kernel) (pa_cons (pe_op op_add (pe_op op_add (pe_op op_mul (pe_ix ix_list (pv 0) pe_int (fun _ _ => rfl)) pe_int) (pv 2)) pe_int) pa_nil)) pe_int) (pg_sub (pv 0) pe_int set_list))
  (pss_one (ps_if (pt_cmpR op_ge (pv 2) (pe_op op_pow pe_int pe_int) (nomark _)) (pss_one (ps_asg (pv 2) (pg_sub (pv 0) pe_int set_list))) pss_nil))))) pss_nil)
  (pss_cons (ps_if (pt_cmpR op_gt (pe_ix ix_list (pv 0) pe_int (fun _ _ => rfl)) pe_int (nomark _)) (pss_cons (ps_set (i := 3) sc_l_draw.nd rfl (Or.inl rfl) (pe_op op_mod (pe_callTy call_int1 (by rfl) T.n_int (by decide +kernel) (pa_cons (pe_ix ix_list (pv 0) pe_int (fun _ _ => rfl)) pa_nil)) (pv 1)))
  (pss_cons (ps_asg (pe_op op_fdiv (pe_ix ix_list (pv 0) pe_int (fun _ _ => rfl)) (pv 1)) (pg_sub (pv 0) pe_int set_list))
  (pss_one (ps_ret (pv 3))))) pss_nil)
  (pss_cons (ps_asg (pe_op op_add (pe_ix ix_list (pv 0) pe_int (fun _ _ => rfl)) pe_int) (pg_sub (pv 0) pe_int set_list))
  (pss_cons (ps_set (i := 4) sc_l_draw.nd rfl (Or.inl rfl) (pe_op op_mod (pe_callTy call_int1 (by rfl) T.n_int (by decide +kernel) (pa_cons (pe_op op_mul (pe_callTy call_int1 (by rfl) T.n_int (by decide +kernel) (pa_cons (pe_op op_add (pe_ix ix_list (pv 0) pe_int (fun _ _ => rfl)) (pe_op op_mul pe_int (pe_ix ix_list (pv 0) pe_int (fun _ _ => rfl)))) pa_nil)) pe_int) pa_nil)) pe_int))
  (pss_cons (ps_set (i := 4) sc_l_draw.nd rfl (Or.inl rfl) (pe_op op_mod (pe_callTy call_int1 (by rfl) T.n_int (by decide +kernel) (pa_cons (pe_op op_mul (pv 4) (pe_op op_add (pe_op op_fdiv (pv 4) pe_int) pe_int)) pa_nil)) pe_int))
  (pss_cons (ps_set (i := 4) sc_l_draw.nd rfl (Or.inl rfl) (pe_op op_mod (pe_callTy call_int1 (by rfl) T.n_int (by decide +kernel) (pa_cons (pe_op op_mul (pv 4) (pe_op op_add (pe_op op_fdiv (pv 4) pe_int) pe_int)) pa_nil)) pe_int))
  (pss_one (ps_ret (pe_op op_mod (pe_callTy call_int1 (by rfl) T.n_int (by decide +kernel) (pa_cons (pe_op op_fdiv (pv 4) pe_int) pa_nil)) (pv 1)))))))))), ?_⟩
    refine ⟨_, rfl, hd, _, 2, _, rfl, rfl, SqL.of hh, rfl, rfl, _, rfl, ?_⟩
    have four : ¬ b = 0 ∨ (b = 0 ∧ ¬ i < cells.length) ∨ (b = 0 ∧ i < cells.length ∧ 10 ^ 18 ≤ cells.getD i.toNat 0) ∨ (b = 0 ∧ i < cells.length ∧ ¬ 10 ^ 18 ≤ cells.getD i.toNat 0) := by
      by_cases h1 : b = 0
      · by_cases h2 : i < cells.length
        · by_cases h3 : 10 ^ 18 ≤ cells.getD i.toNat 0
          · exact .inr (.inr (.inl ⟨h1, h2, h3⟩))
          · exact .inr (.inr (.inr ⟨h1, h2, h3⟩))
        · exact .inr (.inl ⟨h1, h2⟩)
      · exact .inl h1
    have lc : ∀ l : List Int, (l.map V.int).length = l.length := fun l => List.length_map _
    have cell : i < cells.length → atI (cells.map V.int) i = some (.int (cells.getD i.toNat 0)) := fun h => by
      refine atI_nat (i := i.toNat) ?_ (by omega)
      rw [List.getElem?_map, List.getElem?_eq_getElem (by omega), List.getD_eq_getElem?_getD, List.getElem?_eq_getElem (by omega)]; rfl
    have nt : ∀ {H' : Hp} {xs : List V}, H' hd = some (.lst xs) → ∀ ys, H' hd ≠ some (.tup ys) := fun h ys z => by rw [h] at z; cases z
    rcases four with h4 | h4 | h4 | h4
    case' inl =>
      refine ifF (fun z => h4 (by injection z)) ?_
      have F : ∃ (i b s c : Int), Ks (fun a => a = hd) H H ∧ H hd = some (.lst (hand5 ca i b s c)) ∧ H ca = some (.lst (cells.map V.int)) ∧ 0 ≤ i := ⟨i, b, s0, c, .refl, hh, hca, hi⟩
    case' inr.inl =>
      refine ifT (by rw [h4.1]) ⟨_, rfl, hd, _, 1, _, rfl, rfl, SqL.of hh, rfl, _, rfl, hd, _, 0, _, rfl, rfl, SqL.of hh, rfl, .ref ca, _, rfl, .inl ⟨_, SqL.of hca, rfl⟩, _, _, rfl, rfl, _, rfl, ifF (by rw [lc]; exact h4.2) ?_⟩
      have F : ∃ (i b s c : Int), Ks (fun a => a = hd) H H ∧ H hd = some (.lst (hand5 ca i b s c)) ∧ H ca = some (.lst (cells.map V.int)) ∧ 0 ≤ i := ⟨i, b, s0, c, .refl, hh, hca, hi⟩
    case' inr.inr.inl =>
      refine ifT (by rw [h4.1]) ⟨_, rfl, hd, _, 1, _, rfl, rfl, SqL.of hh, rfl, _, rfl, hd, _, 0, _, rfl, rfl, SqL.of hh, rfl, .ref ca, _, rfl, .inl ⟨_, SqL.of hca, rfl⟩, _, _, rfl, rfl, _, rfl, ifT (by rw [lc]; exact h4.2.1) ?_⟩
      refine ⟨_, rfl, hd, _, 0, _, rfl, rfl, SqL.of hh, rfl, _, rfl, hd, _, 1, _, rfl, rfl, SqL.of hh, rfl, ca, _, i, _, rfl, rfl, SqL.of hca, cell h4.2.1, ?_⟩
      refine ⟨_, rfl, hd, _, 1, _, rfl, rfl, SqL.of hh, rfl, _, _, rfl, rfl, _, rfl, hd, _, 1, 1, rfl, rfl, hh, rfl, ?_⟩
      refine ⟨_, rfl, hd, _, 3, _, rfl, rfl, SqL.of upd_same, rfl, _, _, rfl, rfl, .inr ⟨by decide, by decide⟩, _, rfl, _, _, rfl, rfl, _, _, rfl, rfl, .inl ⟨_, rfl, _, _, rfl, rfl, p629, _, rfl, hd, _, 3, 3, rfl, rfl, upd_same, rfl, ?_⟩⟩
      refine ⟨_, rfl, _, _, rfl, rfl, ⟨by decide, by decide, by decide⟩, _, _, rfl, rfl, _, rfl, ifT h4.2.2 ?_⟩
      refine ⟨_, rfl, _, rfl, hd, _, 2, 2, rfl, rfl, upd_same, rfl, ?_⟩
      rw [upd_upd, upd_upd]
      have F : ∃ (i' b' s' c' : Int), Ks (fun a => a = hd) H (upd H hd (.lst (hand5 ca (i + 1) (cells.getD i.toNat 0) ((s0 * 69621 + cells.getD i.toNat 0 + 11) % 2147483629) c))) ∧ (upd H hd (.lst (hand5 ca (i + 1) (cells.getD i.toNat 0) ((s0 * 69621 + cells.getD i.toNat 0 + 11) % 2147483629) c))) hd = some (.lst (hand5 ca i' b' s' c')) ∧ (upd H hd (.lst (hand5 ca (i + 1) (cells.getD i.toNat 0) ((s0 * 69621 + cells.getD i.toNat 0 + 11) % 2147483629) c))) ca = some (.lst (cells.map V.int)) ∧ 0 ≤ i' :=
        ⟨i + 1, cells.getD i.toNat 0, (s0 * 69621 + cells.getD i.toNat 0 + 11) % 2147483629, c, Ks.mut .refl rfl (nt hh), upd_same, by rw [upd_ne hne]; exact hca, by omega⟩
    case' inr.inr.inr =>
      refine ifT (by rw [h4.1]) ⟨_, rfl, hd, _, 1, _, rfl, rfl, SqL.of hh, rfl, _, rfl, hd, _, 0, _, rfl, rfl, SqL.of hh, rfl, .ref ca, _, rfl, .inl ⟨_, SqL.of hca, rfl⟩, _, _, rfl, rfl, _, rfl, ifT (by rw [lc]; exact h4.2.1) ?_⟩
      refine ⟨_, rfl, hd, _, 0, _, rfl, rfl, SqL.of hh, rfl, _, rfl, hd, _, 1, _, rfl, rfl, SqL.of hh, rfl, ca, _, i, _, rfl, rfl, SqL.of hca, cell h4.2.1, ?_⟩
      refine ⟨_, rfl, hd, _, 1, _, rfl, rfl, SqL.of hh, rfl, _, _, rfl, rfl, _, rfl, hd, _, 1, 1, rfl, rfl, hh, rfl, ?_⟩
      refine ⟨_, rfl, hd, _, 3, _, rfl, rfl, SqL.of upd_same, rfl, _, _, rfl, rfl, .inr ⟨by decide, by decide⟩, _, rfl, _, _, rfl, rfl, _, _, rfl, rfl, .inl ⟨_, rfl, _, _, rfl, rfl, p629, _, rfl, hd, _, 3, 3, rfl, rfl, upd_same, rfl, ?_⟩⟩
      refine ⟨_, rfl, _, _, rfl, rfl, ⟨by decide, by decide, by decide⟩, _, _, rfl, rfl, _, rfl, ifF h4.2.2 ?_⟩
      rw [upd_upd]
      have F : ∃ (i' b' s' c' : Int), Ks (fun a => a = hd) H (upd H hd (.lst (hand5 ca (i + 1) b ((s0 * 69621 + cells.getD i.toNat 0 + 11) % 2147483629) c))) ∧ (upd H hd (.lst (hand5 ca (i + 1) b ((s0 * 69621 + cells.getD i.toNat 0 + 11) % 2147483629) c))) hd = some (.lst (hand5 ca i' b' s' c')) ∧ (upd H hd (.lst (hand5 ca (i + 1) b ((s0 * 69621 + cells.getD i.toNat 0 + 11) % 2147483629) c))) ca = some (.lst (cells.map V.int)) ∧ 0 ≤ i' :=
        ⟨i + 1, b, (s0 * 69621 + cells.getD i.toNat 0 + 11) % 2147483629, c, Ks.mut .refl rfl (nt hh), upd_same, by rw [upd_ne hne]; exact hca, by omega⟩
    all_goals
      obtain ⟨i1, b1, s1, c1, kk, hh1, hca1, hi1⟩ := F
      refine ⟨_, rfl, hd, _, 2, _, rfl, rfl, SqL.of hh1, rfl, _, _, rfl, rfl, _, rfl, ?_⟩
      by_cases hb : 0 < b1
      · refine ifT hb ⟨_, rfl, hd, _, 2, _, rfl, rfl, SqL.of hh1, rfl, .inl ⟨_, rfl, _, rfl, _, _, rfl, rfl, (by show 0 < many; omega), ?_⟩⟩
        refine ⟨_, rfl, hd, _, 2, _, rfl, rfl, SqL.of hh1, rfl, _, rfl, _, _, rfl, rfl, ⟨by omega, by omega⟩, _, rfl, hd, _, 2, 2, rfl, rfl, hh1, rfl, ?_⟩
        exact ⟨_, rfl, k _ _ (Int.emod_nonneg _ (by omega)) (Int.emod_lt_of_pos _ (by omega)) (kk.mut rfl (nt hh1)) ⟨cells, i1, b1 / many, s1, c1, upd_same, by rw [upd_ne hne]; exact hca1, hi1⟩⟩
      · refine ifF hb ?_
        refine ⟨_, rfl, hd, _, 4, _, rfl, rfl, SqL.of hh1, rfl, _, _, rfl, rfl, _, rfl, hd, _, 4, 4, rfl, rfl, hh1, rfl, ?_⟩
        refine ⟨_, rfl, hd, _, 3, _, rfl, rfl, SqL.of upd_same, rfl, _, rfl, hd, _, 4, _, rfl, rfl, SqL.of upd_same, rfl, _, _, rfl, rfl, .inl ⟨by decide, by decide⟩, _, _, rfl, rfl, .inl ⟨_, rfl, _, _, rfl, rfl, .inr ⟨by decide, by decide⟩, .inl ⟨_, rfl, _, _, rfl, rfl, p647, ?_⟩⟩⟩
        have e1 := Int.emod_nonneg ((s1 + 7919 * (c1 + 1)) * 48271) (show (2147483647 : Int) ≠ 0 by decide)
        have e2 := Int.emod_lt_of_pos ((s1 + 7919 * (c1 + 1)) * 48271) (show (0 : Int) < 2147483647 by decide)
        generalize ((s1 + 7919 * (c1 + 1)) * 48271) % 2147483647 = n1 at e1 e2
        refine ⟨_, rfl, _, rfl, _, _, rfl, rfl, ⟨by decide, by decide⟩, _, _, rfl, rfl, _, _, rfl, rfl, .inl ⟨by omega, by omega⟩, .inl ⟨_, rfl, _, _, rfl, rfl, p647, ?_⟩⟩
        have e3 := Int.emod_nonneg (n1 * (n1 / 1009 + 69621)) (show (2147483647 : Int) ≠ 0 by decide)
        have e4 := Int.emod_lt_of_pos (n1 * (n1 / 1009 + 69621)) (show (0 : Int) < 2147483647 by decide)
        generalize (n1 * (n1 / 1009 + 69621)) % 2147483647 = n2 at e3 e4
        refine ⟨_, rfl, _, rfl, _, _, rfl, rfl, ⟨by decide, by decide⟩, _, _, rfl, rfl, _, _, rfl, rfl, .inl ⟨by omega, by omega⟩, .inl ⟨_, rfl, _, _, rfl, rfl, p399, ?_⟩⟩
        refine ⟨_, rfl, _, _, rfl, rfl, ⟨by decide, by decide⟩, .inl ⟨_, rfl, _, rfl, _, _, rfl, rfl, (by show 0 < many; omega), ?_⟩⟩
        exact k _ _ (Int.emod_nonneg _ (by omega)) (Int.emod_lt_of_pos _ (by omega)) (kk.mut rfl (nt hh1)) ⟨cells, i1, b1, s1, c1 + 1, upd_same, by rw [upd_ne hne]; exact hca1, hi1⟩
theorem ok_l_hand : FnOk P w K mg base CX0 1 T.a_l_hand T.d_l_hand P_l_hand (sp_hand K) := by
  refine T.F_l_hand.ok sc_l_hand (fun vs H Q E h => ?_) (fun cdv A outer s H vs Q E hr h => ?_)
  · obtain ⟨a, ns, rfl, _⟩ := h; rfl
  · obtain ⟨a, ns, rfl, hs, hl, k⟩ := h
    refine ⟨_, (pss_cons (ps_setLc (i := 1) (own := [("_law_cell", 2)]) rfl sc_l_hand.nd rfl rfl (sw_true rfl rfl rfl (by decide +kernel)) (pi_list (pe_slice sl_list (pv 0) po_none (po_some pe_int))) (blkOk_by (own := [("_law_cell", 2)]) (N := N_l_hand) (sc := defScope s_l_hand) (by decide +kernel)) (fun _ _ _ _ _ => (pg_name (i := 2) sc_l_hand.nd rfl (Or.inl rfl))) (fun _ _ _ _ _ => pts_nil) (fun _ _ _ _ _ => (pe_callB call_abs (by rfl) T.n_abs (by decide +kernel) (pa_cons (pe_callTy call_int1 (by rfl) T.n_int (by decide +kernel) (pa_cons (pv 2) pa_nil)) pa_nil))))
  (pss_one (ps_ret (pe_lst (pa_cons (pv 1) (pa_cons pe_int (pa_cons pe_int (pa_cons (pe_op op_add pe_int (pe_callB call_len (by rfl) T.n_len (by decide +kernel) (pa_cons (pv 1) pa_nil))) (pa_cons pe_int pa_nil))))))))), ?_⟩
    have ec : cutV (ns.map V.int) none (some 63) = ((ns.drop (HT.sIx ns.length 0 none)).take (HT.sIx ns.length ns.length (some 63) - HT.sIx ns.length 0 none)).map V.int := by
      unfold cutV
      rw [List.length_map, ← List.map_drop, ← List.map_take]
    generalize hcs : ((ns.drop (HT.sIx ns.length 0 none)).take (HT.sIx ns.length ns.length (some 63) - HT.sIx ns.length 0 none)) = cs at ec
    have lcs : cs.length ≤ 63 := by
      rw [← hcs]
      refine Nat.le_trans (List.length_take_le _ _) ?_
      have h63 : HT.sIx ns.length ns.length (some 63) ≤ 63 := by
        show (if (63 : Int) < 0 then ((63 : Int) + (ns.length : Int)).toNat else min (63 : Int).toNat ns.length) ≤ 63
        rw [if_neg (by decide)]
        exact Nat.min_le_left _ _
      omega
    refine ⟨_, rfl, 63, rfl, a, _, rfl, hs, fun p hp => ?_⟩
    rw [ec]
    have k0 : Ke H (upd H p (.lst (cs.map V.int))) := Ke.new hp
    refine ⟨p, rfl, ⟨_, SqL.of upd_same⟩, fun D hD => ?_⟩
    have nDp : D ≠ p := fun z => by rw [z, upd_same] at hD; cases hD
    refine lw_L (R := II H) (fun d H' => Ke H H' ∧ H' p = some (.lst (cs.map V.int)) ∧ H' D = some (.lst ((d.map fun x : Int => if x < 0 then -x else x).map V.int))) (pmap_int cs) ⟨k0.trans (Ke.new hD), by rw [upd_ne nDp.symm, upd_same], upd_same⟩ (fun d H' q => q.2.1) ?_ ?_
    · rintro d x r v H1 e rfl ⟨k1, hp1, hD1⟩
      refine ⟨rfl, _, rfl, .inl ⟨_, rfl, _, rfl, _, hD1, ?_, k1.mutNew (k0.free hD), by rw [upd_ne nDp.symm]; exact hp1, ?_⟩⟩
      · rw [List.length_map, List.length_map, sizeLine_eq]
        rw [e] at lcs; simp at lcs; omega
      · rw [upd_same]; simp
    · rintro H1 ⟨k1, hp1, hD1⟩
      refine ⟨_, rfl, _, rfl, .ref D, _, rfl, .inl ⟨_, SqL.of hD1, rfl⟩, _, _, rfl, rfl, (by show 5 ≤ sizeLine; decide), fun hd hhd => ?_⟩
      exact k hd D _ (k1.free hhd) (k0.free hD) (k1.trans (Ke.new hhd)) ⟨_, 0, 0, _, 0, upd_same, (Ke.new hhd).at hD1, by omega⟩
theorem ok_l_sizes : FnOk P w K mg base CX0 2 T.a_l_sizes T.d_l_sizes P_l_sizes sp_sizes := by
  refine T.F_l_sizes.ok sc_l_sizes (fun vs H Q E h => ?_) (fun cdv A outer s H vs Q E hr h => ?_)
  · obtain ⟨hd, ca, most, rfl, _⟩ := h; rfl
  · obtain ⟨hd, ca, most, rfl, hA, hm, k⟩ := h
    refine ⟨_, (pss_one (ps_ret (pe_tup (pa_cons (pe_op op_add pe_int (pe_call (ok_l_draw T) (hr.mono (by decide)) rfl T.g_l_draw T.k_l_draw T.b_l_draw .nil pass0 (pa_cons (pv 0) (pa_cons (pv 1) pa_nil)))) (pa_cons (pe_op op_add pe_int (pe_call (ok_l_draw T) (hr.mono (by decide)) rfl T.g_l_draw T.k_l_draw T.b_l_draw .nil pass0 (pa_cons (pv 0) (pa_cons (pv 1) pa_nil)))) (pa_cons (pe_op op_add pe_int (pe_call (ok_l_draw T) (hr.mono (by decide)) rfl T.g_l_draw T.k_l_draw T.b_l_draw .nil pass0 (pa_cons (pv 0) (pa_cons (pv 1) pa_nil)))) pa_nil)))))), ?_⟩
    refine ⟨_, rfl, _, rfl, hd, ca, most, rfl, hA, hm, fun r1 H1 a1 b1 k1 hA1 => ⟨_, _, rfl, rfl, ?_⟩⟩
    refine ⟨_, rfl, _, rfl, hd, ca, most, rfl, hA1, hm, fun r2 H2 a2 b2 k2 hA2 => ⟨_, _, rfl, rfl, ?_⟩⟩
    refine ⟨_, rfl, _, rfl, hd, ca, most, rfl, hA2, hm, fun r3 H3 a3 b3 k3 hA3 => ⟨_, _, rfl, rfl, (by show 3 ≤ sizeLine; decide), fun t ht => ?_⟩⟩
    exact k _ _ _ _ _ ⟨by omega, by omega⟩ ⟨by omega, by omega⟩ ⟨by omega, by omega⟩ (((k1.trans k2).trans k3).trans (Ke.new ht).ks) (hA3.ke (Ke.new ht)) ⟨t, rfl, upd_same⟩
end
end Fd
set_option Elab.async false
set_option linter.all false
set_option maxRecDepth 100000
set_option maxHeartbeats 4000000
namespace Fd
open PySem PySem.Spec PyProof.Rows L2
/-- the rows that are drawn: right, and short -/
def RowsOk (sz : List Int) (many : Int) (mv : List (List (List Int))) : Prop := ∀ r ∈ mv, RowOk sz many r ∧ r.length ≤ 6
def sp_lmoves : Sp := fun xs H Q _ => ∃ hd ca u a b c many, xs = [.ref hd, u, .int many] ∧ HandAt H hd ca ∧ TI H u [a, b, c] ∧ (1 ≤ a ∧ a ≤ 4) ∧ (1 ≤ b ∧ b ≤ 4) ∧ (1 ≤ c ∧ c ≤ 4) ∧ (1 ≤ many ∧ many ≤ 20) ∧
  ∀ v mv H', Ks (fun x => x = hd) H H' → HandAt H' hd ca → MV H' v mv → (mv.length : Int) = many → RowsOk [a, b, c] many mv → Q v H'
/-- the moves drawn so far, as the keys of a dict -/
structure RD (H : Hp) (d : Addr) (sz : List Int) (many : Int) (n : Nat) (kvs : List (List Key × V)) (ks : List (List Int)) : Prop where
  at_ : H d = some (.dT kvs)
  ke : kvs.map (·.1) = ks.map keyI
  nd : ks.Nodup
  ok : ∀ m ∈ ks, MoveOk sz many m
  len : ks.length ≤ n
theorem RD.put {H : Hp} {d : Addr} {sz : List Int} {many : Int} {n : Nat} {kvs : List (List Key × V)} {ks : List (List Int)} {m : List Int} {v : V} {H' : Hp} (x : RD H d sz many n kvs ks) (hm : MoveOk sz many m) : RD (upd H' d (.dT (putK kvs (keyI m) v))) d sz many (n + 1) (putK kvs (keyI m) v) (addk ks m) where
  at_ := upd_same
  ke := keys_put keyI (fun _ _ z => keyI_inj z) x.ke
  nd := addk_nodup x.nd
  ok := fun z hz => (mem_addk.mp hz).elim (x.ok z) fun e => by rw [e]; exact hm
  len := by
    have := x.len
    unfold addk
    split
    · omega
    · rw [List.length_append, List.length_singleton]; omega
section
variable {P : Program} {w : World} {K : PySem.W.Frag} {mg : Str → Option Value} {base : Heap} (T : Txt K mg)
include T
theorem ok_l_moves : FnOk P w K mg base CX0 2 T.a_l_moves T.d_l_moves P_l_moves sp_lmoves := by
  refine T.F_l_moves.ok sc_l_moves (fun vs H Q E h => ?_) (fun cdv A outer s H vs Q E hr h => ?_)
  · obtain ⟨hd, ca, u, a, b, c, many, rfl, _⟩ := h; rfl
  · obtain ⟨hd, ca, u, a, b, c, many, rfl, hA, ⟨ua, rfl, hu0⟩, ha, hb, hc, hm, k⟩ := h
    have hu := hu_of hr
    refine ⟨_, (pss_cons (ps_set (i := 3) sc_l_moves.nd rfl (Or.inl rfl) (pe_lst pa_nil))
  (pss_cons (ps_for PassesOwn.never rfl (pi_range1 rfl T.n_range (pa_cons (pv 2) pa_nil)) (pg_name (i := 4) sc_l_moves.nd rfl (Or.inl rfl)) (pss_cons (ps_set (i := 5) sc_l_moves.nd rfl (Or.inl rfl) pe_dnewT)
  (pss_cons (ps_if (pt_cmpR op_gt (pe_call (ok_l_draw T) (hr.mono (by decide)) rfl T.g_l_draw T.k_l_draw T.b_l_draw .nil pass0 (pa_cons (pv 0) (pa_cons pe_int pa_nil))) pe_int (nomark _)) (pss_one (ps_for PassesOwn.never rfl (pi_range1 rfl T.n_range (pa_cons (pe_ix ix_tup (pv 1) pe_int (fun _ _ => rfl)) pa_nil)) (pg_name (i := 6) sc_l_moves.nd rfl (Or.inl rfl)) (pss_one (ps_dput hu (pv 5) (pe_tup (pa_cons (pv 6) (pa_cons (pe_call (ok_l_draw T) (hr.mono (by decide)) rfl T.g_l_draw T.k_l_draw T.b_l_draw .nil pass0 (pa_cons (pv 0) (pa_cons (pe_ix ix_tup (pv 1) pe_int (fun _ _ => rfl)) pa_nil))) (pa_cons (pe_call (ok_l_draw T) (hr.mono (by decide)) rfl T.g_l_draw T.k_l_draw T.b_l_draw .nil pass0 (pa_cons (pv 0) (pa_cons (pe_ix ix_tup (pv 1) pe_int (fun _ _ => rfl)) pa_nil))) (pa_cons (pe_call (ok_l_draw T) (hr.mono (by decide)) rfl T.g_l_draw T.k_l_draw T.b_l_draw .nil pass0 (pa_cons (pv 0) (pa_cons (pv 2) pa_nil))) pa_nil))))) pe_bl rfl)))) pss_nil)
  (pss_cons (ps_for PassesOwn.never rfl (pi_range1 rfl T.n_range (pa_cons (pe_call (ok_l_draw T) (hr.mono (by decide)) rfl T.g_l_draw T.k_l_draw T.b_l_draw .nil pass0 (pa_cons (pv 0) (pa_cons pe_int pa_nil))) pa_nil)) (pg_name (i := 7) sc_l_moves.nd rfl (Or.inl rfl)) (pss_cons (ps_set (i := 6) sc_l_moves.nd rfl (Or.inl rfl) (pe_call (ok_l_draw T) (hr.mono (by decide)) rfl T.g_l_draw T.k_l_draw T.b_l_draw .nil pass0 (pa_cons (pv 0) (pa_cons (pe_ix ix_tup (pv 1) pe_int (fun _ _ => rfl)) pa_nil))))
  (pss_one (ps_dput hu (pv 5) (pe_tup (pa_cons (pv 6) (pa_cons (pe_call (ok_l_draw T) (hr.mono (by decide)) rfl T.g_l_draw T.k_l_draw T.b_l_draw .nil pass0 (pa_cons (pv 0) (pa_cons (pe_ix ix_tup (pv 1) pe_int (fun _ _ => rfl)) pa_nil))) (pa_cons (pe_call (ok_l_draw T) (hr.mono (by decide)) rfl T.g_l_draw T.k_l_draw T.b_l_draw .nil pass0 (pa_cons (pv 0) (pa_cons (pe_ix ix_tup (pv 1) pe_int (fun _ _ => rfl)) pa_nil))) (pa_cons (pe_call (ok_l_draw T) (hr.mono (by decide)) rfl T.g_l_draw T.k_l_draw T.b_l_draw .nil pass0 (pa_cons (pv 0) (pa_cons (pv 2) pa_nil))) pa_nil))))) pe_bl rfl))))
  (pss_one (ps_expr (pe_bm PySem.F.plainAttrs_list PySem.F.slot_list_append PySem.F.type_list_append mt_append (pv 3) (pa_cons (pe_callTy call_tuple_of (by rfl) T.n_tuple (by decide +kernel) (pa_cons (pe_callB (cr_sortedD hr) (by rfl) T.n_sorted (by decide +kernel) (pa_cons (pe_callTy (call_list_dT rfl) (by rfl) T.n_list (by decide +kernel) (pa_cons (pv 5) pa_nil)) pa_nil)) pa_nil)) pa_nil))))))))
  (pss_one (ps_ret (pe_callTy call_tuple_of (by rfl) T.n_tuple (by decide +kernel) (pa_cons (pv 3) pa_nil)))))), ?_⟩
    refine ⟨by decide, fun f hf => ?_⟩
    have n1 : f ≠ hd := fun z => hA.there.1 (by rw [← z]; exact hf)
    have n2 : f ≠ ca := fun z => hA.there.2 (by rw [← z]; exact hf)
    refine ⟨_, rfl, many, rfl, by omega, by omega, for_range (fun i σ H' => (∃ s4 s5 s6 s7, σ = [some (.ref hd), some (.ref ua), some (.int many), some (.ref f), s4, s5, s6, s7]) ∧ Ks (fun x => x = hd) H H' ∧ HandAt H' hd ca ∧ ∃ ws mv, H' f = some (.lst ws) ∧ Paired (TT TI H') ws mv ∧ mv.length = i ∧ RowsOk [a, b, c] many mv)
      ⟨⟨_, _, _, _, rfl⟩, (Ke.new hf).ks, hA.ke (Ke.new hf), [], [], upd_same, .nil, rfl, (fun r hr => by cases hr)⟩ ?_ ?_⟩
    · rintro i σ H1 hi ⟨⟨s4, s5, s6, s7, rfl⟩, k1, hA1, ws, mv, hf1, pw, lmv, rows⟩
      have hu1 := k1.tup _ _ hu0
      -- row
      intro rd hrd
      have n3 : rd ≠ hd := fun z => hA1.there.1 (by rw [← z]; exact hrd)
      have n4 : rd ≠ ca := fun z => hA1.there.2 (by rw [← z]; exact hrd)
      have n5 : f ≠ rd := ne_of_none hf1 hrd
      have kr : Ke H1 (upd H1 rd (.dT [])) := Ke.new hrd
      have rd0 : RD (upd H1 rd (.dT [])) rd [a, b, c] many 0 [] [] := ⟨upd_same, rfl, .nil, (fun _ z => by cases z), Nat.le_refl _⟩
      have hA2 := hA1.ke kr
      generalize hH2 : upd H1 rd (.dT []) = H2 at kr rd0 hA2 ⊢
      have k2 : Ks (fun x => x = hd ∨ x = rd) H1 H2 := kr.ks
      -- one more move of the slip in slot 6
      have one : ∀ (x1 x2 x3 x4 : Int), (0 ≤ x1 ∧ x1 < a) → (0 ≤ x2 ∧ x2 < b) → (0 ≤ x3 ∧ x3 < c) → (0 ≤ x4 ∧ x4 < many) → MoveOk [a, b, c] many [x1, x2, x3, x4] := fun x1 x2 x3 x4 h1 h2 h3 h4 => ⟨a, b, c, x1, x2, x3, x4, rfl, rfl, ⟨by omega, by omega⟩, ⟨by omega, by omega⟩, ⟨by omega, by omega⟩, by omega, by omega⟩
      refine ⟨_, rfl, hd, ca, 3, rfl, hA2, ⟨by decide, by decide⟩, fun r0 H3 _ _ k3 hA3 => ?_⟩
      have rd3 : RD H3 rd [a, b, c] many 0 [] [] := { rd0 with at_ := k3.keep _ _ n3 rd0.at_ }
      have k03 : Ks (fun x => x = hd ∨ x = rd) H1 H3 := k2.trans (k3.mono fun _ z => .inl z)
      refine ⟨_, _, rfl, rfl, _, rfl, ?_⟩
      refine (show (∀ (σ : L2.St) (H4 : Hp), ((∃ s6 s7, σ = [some (.ref hd), some (.ref ua), some (.int many), some (.ref f), some (.int (0 + (i : Nat))), some (.ref rd), s6, s7]) ∧ Ks (fun x => x = hd ∨ x = rd) H1 H4 ∧ HandAt H4 hd ca ∧ ∃ kvs ks, RD H4 rd [a, b, c] many 4 kvs ks) → (?G : L2.St → Hp → Prop) σ H4) → _ from fun tail => ite2 (fun hc0 => ?ca) (fun hc0 => ?cb)) ?tl
      case ca =>
        refine ⟨_, rfl, ua, _, 0, _, rfl, rfl, SqT.of (k03.tup _ _ hu1), rfl, a, rfl, by omega, by omega, for_range (fun j σ H' => (∃ s6 s7, σ = [some (.ref hd), some (.ref ua), some (.int many), some (.ref f), some (.int (0 + (i : Nat))), some (.ref rd), s6, s7]) ∧ Ks (fun x => x = hd ∨ x = rd) H1 H' ∧ HandAt H' hd ca ∧ ∃ kvs ks, RD H' rd [a, b, c] many j kvs ks) ⟨⟨_, _, rfl⟩, k03, hA3, _, _, rd3⟩ ?_ ?_⟩
        · rintro j σ H4 hj ⟨⟨s6, s7, rfl⟩, k4, hA4, kvs, ks, r4⟩
          have hu4 := k4.tup _ _ hu1
          refine ⟨_, rfl, _, rfl, _, rfl, _, rfl, ua, _, 1, _, rfl, rfl, SqT.of hu4, rfl, hd, ca, b, rfl, hA4, ⟨by omega, by omega⟩, fun x2 H5 q1 q2 k5 hA5 => ?_⟩
          refine ⟨_, rfl, _, rfl, ua, _, 2, _, rfl, rfl, SqT.of (k5.tup _ _ hu4), rfl, hd, ca, c, rfl, hA5, ⟨by omega, by omega⟩, fun x3 H6 q3 q4 k6 hA6 => ?_⟩
          refine ⟨_, rfl, _, rfl, hd, ca, many, rfl, hA6, ⟨by omega, by omega⟩, fun x4 H7 q5 q6 k7 hA7 => ⟨(by show 4 ≤ sizeLine; decide), fun t ht => ?_⟩⟩
          have k47 := (k5.trans k6).trans k7
          have r7 := k47.keep _ _ n3 r4.at_
          have lk : kvs.length ≤ j := by have h1 := congrArg List.length r4.ke; have h2 := r4.len; simp at h1; omega
          refine ⟨rd, _, rfl, DPut.t (k := keyI [0 + (j : Int), x2, x3, x4]) ((Ke.new ht).at r7) (by rw [upd_same]; rfl) (by rw [sizeLine_eq]; omega), ?_⟩
          exact ⟨⟨_, _, rfl⟩, ((k4.trans (k47.mono fun _ z => .inl z)).trans (Ke.new ht).ks).mut (.inr rfl) (fun ys z => by rw [(Ke.new ht).at r7] at z; cases z), (hA7.ke (Ke.new ht)).mut n3 n4, _, _, r4.put (one _ _ _ _ ⟨by omega, by omega⟩ ⟨q1, q2⟩ ⟨q3, q4⟩ ⟨q5, q6⟩)⟩
        · intro σ H4 z
          refine tail σ H4 ?_
          obtain ⟨z1, k4, hA4, kvs, ks, r4⟩ := z
          exact ⟨z1, k4, hA4, kvs, ks, r4.at_, r4.ke, r4.nd, r4.ok, by have := r4.len; omega⟩
      case cb =>
        exact tail _ _ ⟨⟨_, _, rfl⟩, k03, hA3, _, _, rd3.at_, rd3.ke, rd3.nd, rd3.ok, by decide⟩
      case tl =>
        rintro σ H4 ⟨⟨s6, s7, rfl⟩, k4, hA4, kvs, ks, r4⟩
        refine ⟨_, rfl, hd, ca, 3, rfl, hA4, ⟨by decide, by decide⟩, fun r1 H5 p1 p2 k5 hA5 => ⟨r1, rfl, by omega, by omega, ?_⟩⟩
        refine for_range (fun j σ H' => (∃ s6 s7, σ = [some (.ref hd), some (.ref ua), some (.int many), some (.ref f), some (.int (0 + (i : Nat))), some (.ref rd), s6, s7]) ∧ Ks (fun x => x = hd ∨ x = rd) H1 H' ∧ HandAt H' hd ca ∧ ∃ kvs ks, RD H' rd [a, b, c] many (4 + j) kvs ks)
          ⟨⟨_, _, rfl⟩, k4.trans (k5.mono fun _ z => .inl z), hA5, kvs, ks, { r4 with at_ := k5.keep _ _ n3 r4.at_ }⟩ ?_ ?_
        · rintro j σ H4 hj ⟨⟨s6, s7, rfl⟩, k4, hA4, kvs, ks, r4⟩
          have hu4 := k4.tup _ _ hu1
          refine ⟨_, rfl, _, rfl, ua, _, 0, _, rfl, rfl, SqT.of hu4, rfl, hd, ca, a, rfl, hA4, ⟨by omega, by omega⟩, fun x1 H5 q1 q2 k5 hA5 => ?_⟩
          have hu5 := k5.tup _ _ hu4
          refine ⟨_, rfl, _, rfl, _, rfl, _, rfl, ua, _, 1, _, rfl, rfl, SqT.of hu5, rfl, hd, ca, b, rfl, hA5, ⟨by omega, by omega⟩, fun x2 H6 q3 q4 k6 hA6 => ?_⟩
          refine ⟨_, rfl, _, rfl, ua, _, 2, _, rfl, rfl, SqT.of (k6.tup _ _ hu5), rfl, hd, ca, c, rfl, hA6, ⟨by omega, by omega⟩, fun x3 H7 q5 q6 k7 hA7 => ?_⟩
          refine ⟨_, rfl, _, rfl, hd, ca, many, rfl, hA7, ⟨by omega, by omega⟩, fun x4 H8 q7 q8 k8 hA8 => ⟨(by show 4 ≤ sizeLine; decide), fun t ht => ?_⟩⟩
          have k48 := ((k5.trans k6).trans k7).trans k8
          have r8 := k48.keep _ _ n3 r4.at_
          have lk : kvs.length ≤ 4 + j := by have h1 := congrArg List.length r4.ke; have h2 := r4.len; simp at h1; omega
          refine ⟨rd, _, rfl, DPut.t (k := keyI [x1, x2, x3, x4]) ((Ke.new ht).at r8) (by rw [upd_same]; rfl) (by rw [sizeLine_eq]; omega), ?_⟩
          exact ⟨⟨_, _, rfl⟩, ((k4.trans (k48.mono fun _ z => .inl z)).trans (Ke.new ht).ks).mut (.inr rfl) (fun ys z => by rw [(Ke.new ht).at r8] at z; cases z), (hA8.ke (Ke.new ht)).mut n3 n4, _, _, r4.put (one _ _ _ _ ⟨q1, q2⟩ ⟨q3, q4⟩ ⟨q5, q6⟩ ⟨q7, q8⟩)⟩
        · rintro σ H4 ⟨⟨s6, s7, rfl⟩, k4, hA4, kvs, ks, r4⟩
          have hf4 : H4 f = some (.lst ws) := k4.keep _ _ (fun z => z.elim n1 n5) hf1
          have lks : ks.length ≤ 6 := by have := r4.len; omega
          refine ⟨_, rfl, .inl ⟨rfl, _, SqL.of hf4⟩, _, rfl, rd, kvs, rfl, .inl r4.at_, fun p bs hp ik => ?_⟩
          have pk := isKeys_TI ik r4.ke
          have kp : Ke H4 (upd H4 p (.lst (bs.map V.ref))) := Ke.new hp
          refine ⟨p, _, List Int, TI (upd H4 p (.lst (bs.map V.ref))), tI, ks, rfl, SqL.of upd_same, pimp (fun v x r => TI.stb _ _ v x kp.tx r) pk, fun v x r => TI.enc K _ v x r, ok_T (fun m hm => ?_), fun p2 out hp2 po => ⟨p2, out, rfl, .inl ⟨SqL.of upd_same, fun t ht => ?_⟩⟩⟩
          · obtain ⟨_, _, _, _, _, _, _, _, rfl, _⟩ := r4.ok m hm
            simp
          have k5 := (kp.trans (Ke.new (o := .lst out) hp2)).trans (Ke.new (o := .tup out) ht)
          refine ⟨f, ws, _, rfl, rfl, k5.at hf4, ?_, ?_⟩
          · rw [plen pw, lmv, sizeLine_eq]; omega
          have tx := snoc_tx (ws := ws ++ [.ref t]) k5.tx hf4
          have t14 : Tx H1 H4 := k4.tx
          have kF : Ks (fun x => x = hd) H (upd (upd (upd (upd H4 p (.lst (bs.map V.ref))) p2 (.lst out)) t (.tup out)) f (.lst (ws ++ [.ref t]))) := by
            refine (Ks.comp k1 (k4.trans k5.ks) (U := fun x => x = hd) (fun _ z => z) (fun x z => z.elim .inl fun z => .inr (by rw [z]; exact k1.free hrd))).mutNew hf
          refine ⟨⟨_, _, _, _, rfl⟩, kF, (hA4.ke k5).mut n1 n2, _, mv ++ [sortT ks], upd_same, papp (pimp (fun v x r => TT.stb TI.stb _ _ v x (t14.trans tx) r) pw) (.cons ⟨t, out, rfl, ?_, ?_⟩ .nil), by rw [List.length_append, lmv]; rfl, fun r hr => ?_⟩
          · rw [upd_ne (ne_of (k5.at hf4) upd_same (fun z => nomatch z)).symm, upd_same]
          · exact pimp (fun v x r => TI.stb _ _ v x (((Ke.new (o := .lst out) hp2).tx.trans (Ke.new (o := .tup out) ht).tx).trans (snoc_tx .refl (k5.at hf4))) r) po
          · rcases List.mem_append.mp hr with z | z
            · exact rows r z
            · rw [List.mem_singleton.mp z]
              exact ⟨⟨fun m hm => r4.ok m (mem_sortT.mp hm), strict_sortT r4.nd, by rw [len_sortT]; omega⟩, by rw [len_sortT]; exact lks⟩
    · rintro σ H1 ⟨⟨s4, s5, s6, s7, rfl⟩, k1, hA1, ws, mv, hf1, pw, lmv, rows⟩
      refine ⟨_, rfl, f, ws, rfl, .inl ⟨SqL.of hf1, fun t ht => ?_⟩⟩
      exact k _ mv _ (k1.trans (Ke.new ht).ks) (hA1.ke (Ke.new ht)) ⟨t, ws, rfl, upd_same, pimp (fun v x r => TT.stb TI.stb _ _ v x (Ke.new ht).tx r) pw⟩ (by omega) rows
end
end Fd
set_option Elab.async false
set_option linter.all false
set_option maxRecDepth 100000
set_option maxHeartbeats 4000000
namespace Fd
open PySem PySem.Spec PyProof.Rows L2
def sp_lclos : Sp := fun xs H Q _ => ∃ hd ca u a b c many, xs = [.ref hd, u, .int many] ∧ HandAt H hd ca ∧ TI H u [a, b, c] ∧ (1 ≤ a ∧ a ≤ 4) ∧ (1 ≤ b ∧ b ≤ 4) ∧ (1 ≤ c ∧ c ≤ 4) ∧ (1 ≤ many ∧ many ≤ 20) ∧
  ∀ v cl H', Ks (fun x => x = hd) H H' → HandAt H' hd ca → CL H' v cl → ClosOk [a, b, c] many cl → (∀ r ∈ cl, r.length ≤ 4) → Q v H'
def sp_loffice (C : Addr) : Sp := fun xs H Q _ => ∃ hd ca u a b c most, xs = [.ref hd, u, .int most] ∧ HandAt H hd ca ∧ TI H u [a, b, c] ∧ (1 ≤ a ∧ a ≤ 4) ∧ (1 ≤ b ∧ b ≤ 4) ∧ (1 ≤ c ∧ c ≤ 4) ∧ (1 ≤ most ∧ most ≤ 20) ∧
  ∀ p (o : Ofc) H', o.sz = [a, b, c] → Good o.sz o.mv o.cl → (o.mv.length : Int) ≤ most → RowsOk o.sz o.mv.length o.mv → (∀ r ∈ o.cl, r.length ≤ 4) → Ks (fun x => x = hd) H H' → HandAt H' hd ca → OfAt C (Hd (fun x => x = hd) H') p o → Q (.ref p) H'
theorem good_sh {sz : List Int} {mv : List (List (List Int))} {cl : List (List Int)} (g : Good sz mv cl) : sz.length = 3 ∧ mv.length < 1000000 ∧ (Sizes sz → MovesSh sz mv ∧ ClosSh sz mv.length cl) := ⟨g.s.1, by have := g.m.2.1; omega, fun _ => ⟨⟨g.m.1, fun r hr => ⟨(g.m.2.2 r hr).1, (g.m.2.2 r hr).2.2⟩⟩, ⟨g.c.1, fun r hr => ⟨(g.c.2 r hr).1, (g.c.2 r hr).2.2⟩⟩⟩⟩
theorem good_bad {sz : List Int} {mv : List (List (List Int))} {cl : List (List Int)} (g : Good sz mv cl) {z : Str} (h : BadP sz mv cl z) : False := by
  rcases h with ⟨h, _⟩ | ⟨_, h, _⟩ | ⟨_, _, h, _⟩
  · exact h g.s
  · exact h g.m
  · exact h g.c
/-- an office of right data is made beside the hand -/
theorem mk_offX {C CB hd ca : Addr} {H : Hp} {u vm vc : V} {sz : List Int} {mv : List (List (List Int))} {cl : List (List Int)} {G : Addr → Hp → Prop} {E : XK} (hA : HandAt H hd ca) (hu : TI H u sz) (hm : TT (TT TI) H vm mv) (hc : TT TI H vc cl) (g : Good sz mv cl)
    (k : ∀ p H', Ks (fun x => x = hd) H H' → HandAt H' hd ca → OfAt C (Hd (fun x => x = hd) H') p ⟨sz, mv, cl⟩ → G p H') :
    ∀ x dx, H x = none → H dx = none → dx ≠ x → sp_initX C CB (.ref x :: ([u, vm, vc] ++ [])) (upd (upd H dx (.own x)) x (.ins C dx [])) (fun v H2 => v = .non ∧ G x H2) E := fun x dx hx hdx ndx => by
  have kA : Ke H (upd (upd H dx (.own x)) x (.ins C dx [])) := (Ke.new hdx).trans (Ke.new (by rw [upd_ne ndx.symm]; exact hx))
  have hA4 := hA.ke kA
  have x1 : x ≠ hd := fun z => hA.there.1 (by rw [← z]; exact hx)
  have txA : Tx H (Hd (fun y => y = hd) (upd (upd H dx (.own x)) x (.ins C dx []))) := kA.tx.trans hA4.tx
  obtain ⟨s1, s2, s3⟩ := good_sh g
  refine ⟨fun y => y = hd, x, dx, u, vm, vc, sz, mv, cl, rfl, upd_same, x1, fun y z => by rw [z]; exact hA4.there.1, TI.stb _ _ _ _ txA hu, TT.stb (TT.stb TI.stb) _ _ _ _ txA hm, TT.stb TI.stb _ _ _ _ txA hc, s1, s2, s3, fun z h => (good_bad g h).elim, fun _ H4 k4 o => ⟨rfl, ?_⟩⟩
  have kK : Ks (fun y => y = hd) H H4 := Ks.comp kA.ks k4 (fun _ z => z) fun y z => .inr (by rw [z]; exact hx)
  exact k x H4 kK (hA4.ks k4 (fun z => x1 z.symm) fun z => by
    have : x ≠ ca := fun z => hA.there.2 (by rw [← z]; exact hx)
    exact this z.symm) o
section
variable {P : Program} {w : World} {K : PySem.W.Frag} {mg : Str → Option Value} {base : Heap} (T : Txt K mg)
include T
theorem ok_l_closings : FnOk P w K mg base CX0 2 T.a_l_closings T.d_l_closings P_l_closings sp_lclos := by
  refine T.F_l_closings.ok sc_l_closings (fun vs H Q E h => ?_) (fun cdv A outer s H vs Q E hr h => ?_)
  · obtain ⟨hd, ca, u, a, b, c, many, rfl, _⟩ := h; rfl
  · obtain ⟨hd, ca, u, a, b, c, many, rfl, hA, ⟨ua, rfl, hu0⟩, ha, hb, hc, hm, k⟩ := h
    refine ⟨_, (pss_cons (ps_set (i := 3) sc_l_closings.nd rfl (Or.inl rfl) (pe_lst pa_nil))
  (pss_cons (ps_for PassesOwn.never rfl (pi_range1 rfl T.n_range (pa_cons (pv 2) pa_nil)) (pg_name (i := 4) sc_l_closings.nd rfl (Or.inl rfl)) (pss_one (ps_expr (pe_bm PySem.F.plainAttrs_list PySem.F.slot_list_append PySem.F.type_list_append mt_append (pv 3) (pa_cons (pe_callTy call_tuple_of (by rfl) T.n_tuple (by decide +kernel) (pa_cons (pe_lc (own := [("_law_mark", 5)]) rfl sc_l_closings.nd (pi_range1 rfl T.n_range (pa_cons (pe_ix ix_tup (pv 1) pe_int (fun _ _ => rfl)) pa_nil)) (blkOk_by (own := [("_law_mark", 5)]) (N := N_l_closings) (sc := defScope s_l_closings) (by decide +kernel)) (fun _ _ _ _ _ => (pg_name (i := 5) sc_l_closings.nd rfl (Or.inl rfl))) (fun _ _ _ _ _ => pts_one (pt_cmpR op_gt (pe_call (ok_l_draw T) (hr.mono (by decide)) rfl T.g_l_draw T.k_l_draw T.b_l_draw .nil pass0 (pa_cons (pv 0) (pa_cons pe_int pa_nil))) pe_int (nomark _))) (fun _ _ _ _ _ => (pv 5))) pa_nil)) pa_nil)))))
  (pss_one (ps_ret (pe_callTy call_tuple_of (by rfl) T.n_tuple (by decide +kernel) (pa_cons (pv 3) pa_nil)))))), ?_⟩
    refine ⟨by decide, fun f hf => ?_⟩
    have n1 : f ≠ hd := fun z => hA.there.1 (by rw [← z]; exact hf)
    have n2 : f ≠ ca := fun z => hA.there.2 (by rw [← z]; exact hf)
    refine ⟨_, rfl, many, rfl, by omega, by omega, for_range (fun i σ H' => (∃ s4 s5, σ = [some (.ref hd), some (.ref ua), some (.int many), some (.ref f), s4, s5]) ∧ Ks (fun x => x = hd) H H' ∧ HandAt H' hd ca ∧ ∃ ws cl, H' f = some (.lst ws) ∧ Paired (TI H') ws cl ∧ cl.length = i ∧ ∀ r ∈ cl, (∀ k ∈ r, 0 ≤ k ∧ k < c) ∧ r.Pairwise (· < ·) ∧ r.length ≤ 4)
      ⟨⟨_, _, rfl⟩, (Ke.new hf).ks, hA.ke (Ke.new hf), [], [], upd_same, .nil, rfl, (fun r hr => by cases hr)⟩ ?_ ?_⟩
    · rintro i σ H1 hi ⟨⟨s4, s5, rfl⟩, k1, hA1, ws, cl, hf1, pw, lcl, rows⟩
      have hu1 := k1.tup _ _ hu0
      refine ⟨_, rfl, .inl ⟨rfl, _, SqL.of hf1⟩, _, rfl, ua, _, 2, _, rfl, rfl, SqT.of hu1, rfl, c, rfl, by omega, by omega, fun D hD => ?_⟩
      have m1 : D ≠ hd := fun z => hA1.there.1 (by rw [← z]; exact hD)
      have m2 : D ≠ ca := fun z => hA1.there.2 (by rw [← z]; exact hD)
      have m3 : D ≠ f := (ne_of_none hf1 hD).symm
      refine lw_range (fun j H' => Ks (fun x => x = hd) H1 H' ∧ HandAt H' hd ca ∧ ∃ ms : List Int, H' D = some (.lst (ms.map V.int)) ∧ ms.Pairwise (· < ·) ∧ (∀ k ∈ ms, 0 ≤ k ∧ k < j) ∧ ms.length ≤ j) ⟨(Ke.new hD).ks, hA1.ke (Ke.new hD), [], upd_same, .nil, (fun _ z => nomatch z), Nat.le_refl _⟩ ?_ ?_
      · rintro j H2 hj ⟨k2, hA2, ms, hD2, asc, rg, lm⟩
        refine ⟨rfl, _, rfl, hd, ca, 3, rfl, hA2, ⟨by decide, by decide⟩, fun r H3 _ _ k3 hA3 => ⟨_, _, rfl, rfl, _, rfl, ite2 (fun _ => ?_) (fun _ => ?_)⟩⟩
        · have hD3 := k3.keep _ _ m1 hD2
          refine ⟨_, rfl, _, hD3, by rw [List.length_map, sizeLine_eq]; omega, (k2.trans k3).mutNew hD, hA3.mut m1 m2, ms ++ [(j : Int)], by rw [upd_same]; simp, ?_, fun x hx => ?_, by rw [List.length_append]; simp; omega⟩
          · rw [List.pairwise_append]
            exact ⟨asc, by simp, fun x hx y hy => by rw [List.mem_singleton.mp hy]; exact (rg x hx).2⟩
          · rcases List.mem_append.mp hx with z | z
            · have := rg x z; omega
            · rw [List.mem_singleton.mp z]; omega
        · exact ⟨k2.trans k3, hA3, ms, k3.keep _ _ m1 hD2, asc, fun x hx => by have := rg x hx; omega, by omega⟩
      · rintro H2 ⟨k2, hA2, ms, hD2, asc, rg, lm⟩
        have hf2 := k2.keep _ _ n1 hf1
        refine ⟨D, _, rfl, .inl ⟨SqL.of hD2, fun t ht => ⟨f, ws, _, rfl, rfl, (Ke.new ht).at hf2, by rw [plen pw, lcl, sizeLine_eq]; omega, ?_⟩⟩⟩
        have tx := snoc_tx (ws := ws ++ [.ref t]) (Ke.new (o := .tup (ms.map V.int)) ht).tx hf2
        refine ⟨⟨_, _, rfl⟩, ((k1.trans k2).trans (Ke.new ht).ks).mutNew hf, (hA2.ke (Ke.new ht)).mut n1 n2, _, cl ++ [ms], upd_same, papp (pimp (fun v x r => TI.stb _ _ v x (k2.tx.trans tx) r) pw) (.cons ⟨t, rfl, ?_⟩ .nil), by rw [List.length_append, lcl]; rfl, fun r hr => ?_⟩
        · rw [upd_ne (ne_of ((Ke.new (o := .tup (ms.map V.int)) ht).at hf2) upd_same (fun z => nomatch z)).symm, upd_same]
        · rcases List.mem_append.mp hr with z | z
          · exact rows r z
          · rw [List.mem_singleton.mp z]
            exact ⟨fun k hk => by have := rg k hk; omega, asc, by omega⟩
    · rintro σ H1 ⟨⟨s4, s5, rfl⟩, k1, hA1, ws, cl, hf1, pw, lcl, rows⟩
      refine ⟨_, rfl, f, ws, rfl, .inl ⟨SqL.of hf1, fun t ht => ?_⟩⟩
      refine k _ cl _ (k1.trans (Ke.new ht).ks) (hA1.ke (Ke.new ht)) ⟨t, ws, rfl, upd_same, pimp (fun v x r => TI.stb _ _ v x (Ke.new ht).tx r) pw⟩ ⟨by omega, fun r hr => ⟨fun k hk => ⟨a, b, c, rfl, ?_⟩, (rows r hr).2.1, by have := (rows r hr).2.2; omega⟩⟩ fun r hr => (rows r hr).2.2
      have := (rows r hr).1 k hk
      omega
end
section
variable {P : Program} {w : World} {K : PySem.W.Frag} {mg : Str → Option Value} {base : Heap} (T : Txt K mg) (Er : Err P K mg) (htop : (P.main.scope.names.lookup ("super" : Str)).isSome = false)
include T Er htop
theorem ok_l_office_ : FnOk P w K mg base CX0 7 T.a_l_office T.d_l_office P_l_office (sp_loffice T.a_Office) := by
  refine T.F_l_office.ok sc_l_office (fun vs H Q E h => ?_) (fun cdv A outer s H vs Q E hr h => ?_)
  · obtain ⟨hd, ca, u, a, b, c, most, rfl, _⟩ := h; rfl
  · obtain ⟨hd, ca, u, a, b, c, most, rfl, hA, hu0, ha, hb, hc, hm, k⟩ := h
    refine ⟨_, (pss_cons (ps_set (i := 3) sc_l_office.nd rfl (Or.inl rfl) (pe_op op_add pe_int (pe_call (ok_l_draw T) (hr.mono (by decide)) rfl T.g_l_draw T.k_l_draw T.b_l_draw .nil pass0 (pa_cons (pv 0) (pa_cons (pv 2) pa_nil)))))
  (pss_one (ps_ret (pe_make T.m_Office (ok_Office_init T Er htop) (hr.mono (by decide)) rfl T.g_Office T.b_Office_init .nil passL (pa_cons (pv 1) (pa_cons (pe_call (ok_l_moves T) (hr.mono (by decide)) rfl T.g_l_moves T.k_l_moves T.b_l_moves .nil pass0 (pa_cons (pv 0) (pa_cons (pv 1) (pa_cons (pv 3) pa_nil)))) (pa_cons (pe_call (ok_l_closings T) (hr.mono (by decide)) rfl T.g_l_closings T.k_l_closings T.b_l_closings .nil pass0 (pa_cons (pv 0) (pa_cons (pv 1) (pa_cons (pv 3) pa_nil)))) pa_nil))))))), ?_⟩
    refine ⟨_, rfl, _, rfl, hd, ca, most, rfl, hA, ⟨by omega, by omega⟩, fun r H1 r1 r2 k1 hA1 => ⟨_, _, rfl, rfl, ?_⟩⟩
    refine ⟨_, rfl, _, rfl, _, rfl, _, rfl, hd, ca, u, a, b, c, 1 + r, rfl, hA1, TI.stb _ _ _ _ k1.tx hu0, ha, hb, hc, ⟨by omega, by omega⟩, fun vm mv H2 k2 hA2 hm2 lm rows => ?_⟩
    refine ⟨_, rfl, _, rfl, _, rfl, hd, ca, u, a, b, c, 1 + r, rfl, hA2, TI.stb _ _ _ _ (k1.tx.trans k2.tx) hu0, ha, hb, hc, ⟨by omega, by omega⟩, fun vc cl H3 k3 hA3 hc3 cok c4 => ?_⟩
    have gd : Good [a, b, c] mv cl := by
      refine ⟨⟨rfl, fun z hz => ?_⟩, ⟨by omega, by omega, fun r' hr' => ?_⟩, ?_⟩
      · simp only [List.mem_cons, List.mem_nil_iff, or_false] at hz
        rcases hz with rfl | rfl | rfl <;> omega
      · rw [lm]; exact (rows r' hr').1
      · rw [lm]; exact cok
    refine mk_offX hA3 (TI.stb _ _ _ _ ((k1.tx.trans k2.tx).trans k3.tx) hu0) (TT.stb (TT.stb TI.stb) _ _ _ _ k3.tx hm2) hc3 gd fun p H4 k4 hA4 of4 => ?_
    exact k p ⟨[a, b, c], mv, cl⟩ H4 rfl gd (by show (mv.length : Int) ≤ most; omega) (by show RowsOk [a, b, c] (mv.length : Int) mv; rw [lm]; exact rows) c4 ((k1.trans (k2.trans k3)).trans k4) hA4 of4
end
end Fd
set_option Elab.async false
set_option linter.all false
set_option maxRecDepth 100000
set_option maxHeartbeats 4000000
namespace Fd
open PySem PySem.Spec PyProof.Rows L2
theorem ptake {α β : Type} {F : α → β → Prop} : ∀ {l : List α} {m : List β} (n : Nat), Paired F l m → Paired F (l.take n) (m.take n)
  | _, _, 0, _ => by rw [List.take_zero, List.take_zero]; exact .nil
  | _, _, n + 1, .nil => .nil
  | _, _, n + 1, .cons h t => .cons h (ptake n t)
theorem pdrop {α β : Type} {F : α → β → Prop} : ∀ {l : List α} {m : List β} (n : Nat), Paired F l m → Paired F (l.drop n) (m.drop n)
  | _, _, 0, p => p
  | _, _, n + 1, .nil => .nil
  | _, _, n + 1, .cons h t => pdrop n t
/-- what t[lo:hi] holds -/
def cutX {α : Type} (xs : List α) (lo hi : Option Int) : List α := (xs.drop (HT.sIx xs.length 0 lo)).take (HT.sIx xs.length xs.length hi - HT.sIx xs.length 0 lo)
theorem sl_row {K : PySem.W.Frag} {α : Type} {R : Rl α} (st : Stb R) {H : Hp} {v : V} {xs : List α} {lo hi : Option Int} {Q : VK} (hv : TT R H v xs) (k : ∀ v' H', Ke H H' → TT R H' v' (cutX xs lo hi) → Q v' H') : rSlA K v lo hi H Q := by
  obtain ⟨a, vs, rfl, ha, p⟩ := hv
  have el := plen p
  refine ⟨a, vs, rfl, SqT.of ha, fun z => k _ _ .refl ⟨a, vs, rfl, ha, ?_⟩, fun _ q hq => k _ _ (Ke.new hq) ⟨q, _, rfl, upd_same, ?_⟩⟩
  · rw [el] at z
    unfold cutX
    rw [z.1, z.2, List.drop_zero, Nat.sub_zero, List.take_length]
    exact p
  · unfold cutV cutX
    rw [el]
    exact ptake _ (pdrop _ (pimp (fun v x r => st _ _ v x (Ke.new hq).tx r) p))
theorem cut_to {α : Type} (xs : List α) (i : Nat) : cutX xs none (some (i : Int)) = xs.take i := by
  unfold cutX
  rw [HT.sIx_none, HT.sIx_nat, List.drop_zero, Nat.sub_zero]
  rcases Nat.le_total i xs.length with h | h
  · rw [Nat.min_eq_left h]
  · rw [Nat.min_eq_right h, List.take_length, List.take_of_length_le h]
theorem cut_from {α : Type} (xs : List α) (i : Nat) : cutX xs (some (i : Int)) none = xs.drop i := by
  unfold cutX
  rw [HT.sIx_none, HT.sIx_nat]
  rcases Nat.le_total i xs.length with h | h
  · rw [Nat.min_eq_left h, List.take_of_length_le (by rw [List.length_drop]; omega)]
  · rw [Nat.min_eq_right h, List.drop_of_length_le h, List.drop_length]; simp
theorem cat_row {K : PySem.W.Frag} {α : Type} {R : Rl α} (st : Stb R) {H : Hp} {x y : V} {xs ys : List α} {Q : VK} (hx : TT R H x xs) (hy : TT R H y ys) (hl : xs.length + ys.length < 2000000) (k : ∀ v' H', Ke H H' → TT R H' v' (xs ++ ys) → Q v' H') : rCatA K x y H Q := by
  obtain ⟨a, vs, rfl, ha, p⟩ := hx
  obtain ⟨b, ws, rfl, hb, q⟩ := hy
  have e1 := plen p
  have e2 := plen q
  refine ⟨a, b, vs, ws, rfl, rfl, SqT.of ha, SqT.of hb, by rw [sizeLine_eq]; omega, fun z => k _ _ .refl ?_, fun _ z => k _ _ .refl ?_, fun _ _ r hr => k _ _ (Ke.new hr) ?_⟩
  · have : xs = [] := List.length_eq_zero_iff.mp (by rw [← e1, z]; rfl)
    rw [this]; exact ⟨b, ws, rfl, hb, q⟩
  · have : ys = [] := List.length_eq_zero_iff.mp (by rw [← e2, z]; rfl)
    rw [this, List.append_nil]; exact ⟨a, vs, rfl, ha, p⟩
  · exact ⟨r, _, rfl, upd_same, papp (pimp (fun v x h => st _ _ v x (Ke.new hr).tx h) p) (pimp (fun v x h => st _ _ v x (Ke.new hr).tx h) q)⟩
theorem seqJ {t u : TS} {D : Ends} {σ : L2.St} {H : Hp} (P : L2.St → Hp → Prop) (k : ∀ nx : L2.St → Hp → Prop, (∀ σ' H', P σ' H' → nx σ' H') → t { D with nx := nx } σ H) (h : ∀ σ' H', P σ' H' → u D σ' H') : tSeq t u D σ H := k (u D) h
theorem stepN {i : Nat} {v : V} {σ : L2.St} {H : Hp} {Q : L2.St → Hp → Prop} (h : Q (σ.set i (some v)) H) : gName i v σ H Q := h
theorem stepT {σ : L2.St} {H : Hp} {D : Ends} (h : D.nx σ H) : tNext D σ H := h
theorem stepA {i : Nat} {v : V} {u : TS} {D : Ends} {σ : L2.St} {H : Hp} (h : u D (σ.set i (some v)) H) : tSeq (tAsg (tC v) (gName i)) u D σ H := h
theorem seqJA {e : TE} {g : TG} {u : TS} {D : Ends} {σ : L2.St} {H : Hp} (P : L2.St → Hp → Prop) (k : ∀ nx : L2.St → Hp → Prop, (∀ σ' H', P σ' H' → nx σ' H') → tAsg e g { D with nx := nx } σ H) (h : ∀ σ' H', P σ' H' → u D σ' H') : tSeq (tAsg e g) u D σ H := k (u D) h
theorem seqJI {c : L2.TT} {a b u : TS} {D : Ends} {σ : L2.St} {H : Hp} (P : L2.St → Hp → Prop) (k : ∀ nx : L2.St → Hp → Prop, (∀ σ' H', P σ' H' → nx σ' H') → tIfS c a b { D with nx := nx } σ H) (h : ∀ σ' H', P σ' H' → u D σ' H') : tSeq (tIfS c a b) u D σ H := k (u D) h
theorem MoveOk.mono {sz : List Int} {n m : Int} {x : List Int} (h : MoveOk sz n x) (hn : n ≤ m) : MoveOk sz m x := by
  obtain ⟨a, b, c, s, t, k, g, e, e2, h1, h2, h3, h4, h5⟩ := h
  exact ⟨a, b, c, s, t, k, g, e, e2, h1, h2, h3, h4, by omega⟩
theorem sorted_sortI (bs : List Int) : (sortI bs).Pairwise (· ≤ ·) := by
  unfold sortI
  rw [le_int]
  have h := List.pairwise_mergeSort (le := fun (p q : Int) => decide (p ≤ q)) (fun a b c h1 h2 => by
    have h1' := of_decide_eq_true h1
    have h2' := of_decide_eq_true h2
    exact decide_eq_true (Int.le_trans h1' h2')) (fun a b => by
    rcases Int.le_total a b with h | h
    · simp [h]
    · simp [h]) bs
  exact h.imp fun q => of_decide_eq_true q
theorem perm_sortI (bs : List Int) : (sortI bs).Perm bs := List.mergeSort_perm bs _
theorem iteF' {c A B : Prop} [Decidable c] (h : ¬ c) (k : B) : if c then A else B := by rw [if_neg h]; exact k
theorem iteT' {c A B : Prop} [Decidable c] (h : c) (k : A) : if c then A else B := by rw [if_pos h]; exact k
theorem inV_int {x : Int} : ∀ ns : List Int, inV (.int x) (ns.map V.int) = decide (x ∈ ns)
  | [] => by simp [inV]
  | n :: ns => by
    have ih := inV_int (x := x) ns
    unfold inV at ih ⊢
    rw [List.map_cons, List.any_cons, ih]
    show ((n == x) || _) = _
    by_cases c : n = x
    · simp [c]
    · have c' : ¬ x = n := fun z => c z.symm
      simp [c, c']
theorem flat_int (ns : List Int) : (ns.map V.int).all flatV = true := by
  rw [List.all_map]; exact List.all_eq_true.mpr fun _ _ => rfl
theorem nilA {σ : L2.St} {H : Hp} {k : List V → Hp → Prop} (h : k [] H) : tNil σ H k := h
theorem tI_sets {α : Type} {xs : List α} {n : Nat} {x : α} (h : n < xs.length) : xs.take n ++ [x] ++ xs.drop (n + 1) = xs.set n x := by
  rw [List.set_eq_take_append_cons_drop, if_pos h, List.append_assoc]; rfl
end Fd
set_option Elab.async false
set_option linter.all false
set_option maxRecDepth 100000
set_option maxHeartbeats 4000000
/-! sorted of a tuple of data. -/
namespace Fd
open PySem PySem.Spec PySem.Calls PyProof PyProof.Rows L2 PySem.W
section
variable {prog : Program} {w : World} {A : Around} {E : Value → Shared → Prop} {s : Shared}
theorem collect_tup {l : Addr} {vs : List Value} {Q : List Value → Shared → Prop} (hl : IsTup s.heap l vs.toArray)
    (h : Q vs { s with heap := (s.heap.push (seqObj "list" #[] 0)).update s.heap.objs.size (Obj.mapSeq (· ++ vs.toArray)) }) (hsz : vs.length ≤ sizeLine) :
    wpAny (model prog w) A (collect (.ref l)) Q E s := by
  obtain ⟨o, ho, hc, n, hd⟩ := id hl
  unfold collect
  refine wpAny_bind (wpAny_runValue (codeAny_builtin entry_proto_collect' ?_))
  show wpAny _ _ (do again (.builtin "list.__iadd__" ⟨[← newList [], .ref l], []⟩)) _ _ s
  refine wpAny_bind (wpAny_newList (wpAny_pure ⟨Code.quiet_builtin _ (by decide +kernel), codeAny_builtin entry_list_iadd' ?_⟩))
  show wpAny _ _ (Builtin.List.listExtendWith (.ref s.heap.objs.size) (.ref l) (.ref s.heap.objs.size)) _ _ { s with heap := s.heap.push (seqObj "list" #[] 0) }
  unfold Builtin.List.listExtendWith
  have ho' : (s.heap.push (seqObj "list" #[] 0)).get? l = some o := Heap.get?_push_of_some _ ho
  refine wpAny_bind (wpAny_typeOf (T := "tuple") ⟨o, ho', hc⟩ ?_)
  have ht : (Value.type "tuple" == Value.type "tuple") = true := by rfl
  rw [if_pos (by rw [ht]; simp)]
  refine wpAny_bind (listItems_at ho' hd ?_)
  refine wpAny_bind (listItems_at (xs := #[]) (n := 0) (Heap.get?_push_size _ rfl) rfl ?_)
  rw [if_neg (by simp)]
  refine wpAny_bind (listUpdate_at (xs := #[]) (n := 0) (Heap.get?_push_size _ rfl) rfl ?_ (Nat.zero_le _) (by show (#[] ++ vs.toArray).size ≤ sizeLine + 1; simp only [Array.size_append, List.size_toArray, List.length_nil]; omega))
  refine wpAny_pure ?_
  show wpAny (model prog w) A (do
      let o ← load s.heap.objs.size
      match o.data with
      | .seq xs _ => pure xs.toList
      | _ => unsupported "internal:collect") Q E { s with heap := (s.heap.push (seqObj "list" #[] 0)).update s.heap.objs.size (Obj.mapSeq (· ++ vs.toArray)) }
  refine wpAny_bind (wpAny_load (get?_update_seq (Heap.get?_push_size _ rfl) _) ?_)
  show wpAny _ _ (pure ((#[] : Array Value) ++ vs.toArray).toList) Q E _
  rw [show ((#[] : Array Value) ++ vs.toArray).toList = vs by simp]
  exact wpAny_pure h
theorem sortedT_data {β : Type} {bs : List β} {enc : β → PyData} {R : Value → β → Prop} {vs : List Value} {l : Addr} {Q : Value → Shared → Prop} (hl : IsTup s.heap l vs.toArray) (e : EachIs R vs bs) (er : EachIs (fun v b => ∃ as, Reads s.heap v (enc b) as) vs bs) (hal : AllAlike (bs.map enc)) (hk : Sortable (bs.map enc)) (hL : bs.length ≤ sizeLine)
    (hu : ∀ b, b ∈ bs → A.units + 2 + (enc b).depth < cLine) (h : ∀ out, out.length = bs.length → EachIs R out (bs.mergeSort (dataLe false enc)) → Q (.ref (s.heap.objs.size + 1)) { s with heap := sortedAll s.heap vs (List.toArray out) }) :
    wpAny (model prog w) A (call (.builtin "sorted") [.ref l]) Q E s := by
  have hLv : vs.length ≤ sizeLine := by rw [e.length]; exact hL
  have er' : EachIs (fun v b => ∃ as, Reads (sortingHeap (copyHeap s.heap vs) (s.heap.objs.size + 1) vs) v (enc b) as) vs bs := er.mono fun _ _ ⟨as, r⟩ => ⟨as, PyProof.Rows.Reads.keeps (fun _ _ => sorting_copy_old) r⟩
  refine call_function_entry kind_sorted plain_sorted entry_sorted (args_sorted1 _) ?_
  unfold Builtin.«sorted»
  refine wpAny_bind (m := checkCount "sorted" 1 1 _) (wpAny_pure ?_)
  refine wpAny_bind (collect_tup hl ?_ hLv)
  refine wpAny_bind (wpAny_newList ?_ hLv)
  have hsz : ((s.heap.push (seqObj "list" #[] 0)).update s.heap.objs.size (Obj.mapSeq (· ++ vs.toArray))).objs.size = s.heap.objs.size + 1 := by
    rw [Heap.size_update, size_push']
  show wpAny _ _ _ _ _ { s with heap := copyHeap s.heap vs }
  rw [hsz]
  refine wpAny_bind (wpAny_holding (wpAny_call_entry slot_list_sort ⟨_, copyHeap_at s.heap vs, rfl⟩ entry_list_sort
    (list_sort_vals (s := { s with heap := copyHeap s.heap vs }) (copyHeap_at s.heap vs)
      (SortsAt.data (s := { s with heap := sortingHeap (copyHeap s.heap vs) (s.heap.objs.size + 1) vs }) (each_map (R := fun v d => ∃ as, Reads (sortingHeap (copyHeap s.heap vs) (s.heap.objs.size + 1) vs) v d as) enc er') hal hk (bound_map hu)) hLv ⟨_, rfl, ?_⟩) (args_list_sort _)))
  exact wpAny_pure ⟨_, rfl, h _ (by rw [sortVals_length false rfl]; exact e.length) (sortVals_data false e er' hal)⟩
end
/-- sorted(t) of a tuple of data -/
def rSortU (K : Frag) : List V → Hp → VK → Prop := fun xs H Q => ∃ (a : Addr) (vs : List V) (β : Type) (R : V → β → Prop) (enc : β → PyData) (bs : List β), xs = [.ref a] ∧ SqT K H a vs ∧ Paired R vs bs ∧ (∀ v b, R v b → Dp K H v (enc b)) ∧ SortOk enc bs ∧
  ∀ p out, H p = none → Paired R out (bs.mergeSort (dataLe false enc)) → Q (.ref p) (upd H p (.lst out))
theorem cr_sortedU {X : Cx} {k : Nat} (hr : Room k X.A) : CallR X (.builtin "sorted") (rSortU X.K) := by
  intro pins s σ H xs us Q I r h
  obtain ⟨a, vs, β, R, enc, bs, rfl, hs, pr, hd, ok, q⟩ := h
  obtain ⟨its, rv, hl, hz⟩ := I.tuple hs
  obtain ⟨u, rfl, ru⟩ := vals1 r
  obtain rfl : u = Value.ref a := ru
  have hlen : bs.length ≤ sizeLine := by rw [← plen pr]; exact hz
  have E := each_of rv pr
  refine sortedT_data hl E (E.mono fun u b ⟨v, r1, r2⟩ => Dp.reads I (enc b) v u (hd v b r2) r1) ok.al ok.so hlen (fun b hb => ?_) fun out ho eo => ?_
  · have := ok.dp b hb
    have := hr.un
    show X.A.units + 2 + _ < _
    omega
  · obtain ⟨c, hc⟩ := sortedAll_at s.heap its out.toArray
    obtain ⟨ws, w1, w2⟩ := each_back eo
    have hw : ws.length ≤ sizeLine := by rw [w1.length, ho]; exact hlen
    have ob : ObjOk X.prog X.w (upd H (s.heap.objs.size + 1) (.lst ws)) (sortedAll s.heap its out.toArray) (s.heap.objs.size + 1) (.lst ws) := ⟨hw, out, c, w1, hc⟩
    exact ⟨.ref (s.heap.objs.size + 1), _, I.laid (t' := s.toks) (fun b o e => sortedAll_old e) (Nat.le_succ _) ob, rfl, q _ ws (I.hok.fresh (Nat.le_succ _)) w2⟩
end Fd
set_option Elab.async false
set_option linter.all false
set_option maxRecDepth 100000
set_option maxHeartbeats 4000000
namespace Fd
open PySem PySem.Spec PyProof.Rows L2
def sp_exchanged : Sp := fun xs H Q _ => ∃ (α : Type) (R : Rl α) (v vr : V) (n : Nat) (rs : List α) (r : α), xs = [v, .int n, vr] ∧ Stb R ∧ TT R H v rs ∧ R H vr r ∧ n < rs.length ∧ rs.length < 1000000 ∧ ∀ v' H', Ke H H' → TT R H' v' (rs.set n r) → Q v' H'
def sp_with_item : Sp := fun xs H Q _ => ∃ v x, xs = [v, x] ∧ ((∃ rs m, TT TI H v rs ∧ TI H x m ∧ rs.length < 1000000 ∧ (∀ b ∈ rs, b ≠ []) ∧ m ≠ [] ∧ ∀ v' H', Ke H H' → TT TI H' v' (sortT (rs ++ [m])) → Q v' H') ∨
  ∃ ks k, TI H v ks ∧ x = .int k ∧ ks.length < 1000000 ∧ ∀ v' H', Ke H H' → TI H' v' (sortI (ks ++ [k])) → Q v' H')
section
variable {P : Program} {w : World} {K : PySem.W.Frag} {mg : Str → Option Value} {base : Heap} (T : Txt K mg)
include T
theorem ok_exchanged : FnOk P w K mg base CX0 1 T.a_exchanged T.d_exchanged P_exchanged sp_exchanged := by
  refine T.F_exchanged.ok sc_exchanged (fun vs H Q E h => ?_) (fun cdv A outer s H vs Q E hr h => ?_)
  · obtain ⟨α, R, v, vr, n, rs, r, rfl, _⟩ := h; rfl
  · obtain ⟨α, R, v, vr, n, rs, r, rfl, st, hv, hr', hn, hl, k⟩ := h
    refine ⟨_, (pss_one (ps_ret (pe_op op_catA (pe_op op_catA (pe_slice sl_tupA (pv 0) po_none (po_some (pv 1))) (pe_tup (pa_cons (pv 2) pa_nil))) (pe_slice sl_tupA (pv 0) (po_some (pe_op op_add (pv 1) pe_int)) po_none)))), ?_⟩
    refine ⟨_, rfl, _, rfl, _, rfl, sl_row st hv fun v1 H1 k1 h1 => ?_⟩
    rw [cut_to] at h1
    refine ⟨_, rfl, (by show 1 ≤ sizeLine; decide), fun t ht => ?_⟩
    have kt : Ke H1 (upd H1 t (.tup [vr])) := Ke.new ht
    refine cat_row st (TT.stb st _ _ _ _ kt.tx h1) (⟨t, [vr], rfl, upd_same, .cons (st _ _ _ _ (k1.trans kt).tx hr') .nil⟩ : TT R _ _ [r]) (by rw [List.length_take]; simp; omega) fun v2 H2 k2 h2 => ?_
    refine ⟨_, rfl, _, rfl, _, _, rfl, rfl, _, rfl, ?_⟩
    have ej : (n : Int) + 1 = ((n + 1 : Nat) : Int) := by omega
    rw [ej]
    unfold tNoPart
    refine sl_row st (TT.stb st _ _ _ _ ((k1.trans kt).trans k2).tx hv) fun v3 H3 k3 h3 => ?_
    rw [cut_from] at h3
    refine cat_row st (TT.stb st _ _ _ _ k3.tx h2) h3 (by rw [List.length_append, List.length_take, List.length_drop]; simp; omega) fun v4 H4 k4 h4 => ?_
    rw [tI_sets hn] at h4
    exact k _ _ ((((k1.trans kt).trans k2).trans k3).trans k4) h4
theorem ok_with_item : FnOk P w K mg base CX0 1 T.a_with_item T.d_with_item P_with_item sp_with_item := by
  refine T.F_with_item.ok sc_with_item (fun vs H Q E h => ?_) (fun cdv A outer s H vs Q E hr h => ?_)
  · obtain ⟨v, x, rfl, _⟩ := h; rfl
  · obtain ⟨v, x, rfl, h⟩ := h
    refine ⟨_, (pss_one (ps_ret (pe_callTy call_tuple_of (by rfl) T.n_tuple (by decide +kernel) (pa_cons (pe_callB (cr_sortedU hr) (by rfl) T.n_sorted (by decide +kernel) (pa_cons (pe_op op_catA (pv 0) (pe_tup (pa_cons (pv 1) pa_nil))) pa_nil)) pa_nil)))), ?_⟩
    refine ⟨_, rfl, _, rfl, (by show 1 ≤ sizeLine; decide), fun t ht => ?_⟩
    have kt : Ke H (upd H t (.tup [x])) := Ke.new ht
    rcases h with ⟨rs, m, hv, hx, hl, hne, hm, k⟩ | ⟨ks, kk, hv, rfl, hl, k⟩
    · refine cat_row TI.stb (TT.stb TI.stb _ _ _ _ kt.tx hv) (⟨t, [x], rfl, upd_same, .cons (TI.stb _ _ _ _ kt.tx hx) .nil⟩ : TT TI _ _ [m]) (by simp; omega) fun v2 H2 k2 h2 => ?_
      obtain ⟨a, vs, rfl, ha, pv⟩ := h2
      refine nilA ⟨a, vs, List Int, TI H2, tI, rs ++ [m], rfl, SqT.of ha, pv, fun v b r => TI.enc K H2 v b r, ok_T (fun b hb => ?_), fun p out hp po => nilA ⟨p, out, rfl, .inl ⟨SqL.of upd_same, fun t2 ht2 => ?_⟩⟩⟩
      · rcases List.mem_append.mp hb with z | z
        · exact hne b z
        · rw [List.mem_singleton.mp z]; exact hm
      · refine k _ _ (((kt.trans k2).trans (Ke.new hp)).trans (Ke.new ht2)) ⟨t2, out, rfl, upd_same, pimp (fun v x r => TI.stb _ _ v x ((Ke.new hp).trans (Ke.new ht2)).tx r) po⟩
    · refine cat_row (xs := ks) (ys := [kk]) II.stb (TI.tt.mp (TI.stb _ _ _ _ kt.tx hv)) (TI.tt.mp ⟨t, rfl, upd_same⟩) (by simp; omega) fun v2 H2 k2 h2 => ?_
      obtain ⟨a, rfl, ha⟩ := TI.tt.mpr h2
      refine nilA ⟨a, _, Int, II H2, PyData.int, ks ++ [kk], rfl, SqT.of ha, pmap_int _, fun v b r => II.enc K H2 v b r, ok_I, fun p out hp po => nilA ⟨p, out, rfl, .inl ⟨SqL.of upd_same, fun t2 ht2 => ?_⟩⟩⟩
      refine k _ _ (((kt.trans k2).trans (Ke.new hp)).trans (Ke.new ht2)) ⟨t2, rfl, ?_⟩
      rw [upd_same, paired_int (H := H2) po]
      rfl
end
end Fd
set_option Elab.async false
set_option linter.all false
set_option maxRecDepth 100000
set_option maxHeartbeats 4000000
namespace Fd
open PySem PySem.Spec PyProof.Rows L2
/-! ### the shop -/
def shF (q l : V) : List (Str × V) := putF "kept_past" l (putF "kept_now" q [])
theorem shF_n {q l : V} : (shF q l).lookup ("kept_now" : Str) = some q := by rfl
theorem shF_p {q l : V} : (shF q l).lookup ("kept_past" : Str) = some l := by rfl
theorem shF_put {q q' l : V} : putF "kept_now" q' (shF q l) = shF q' l := by rfl
/-- a thing that is no integer, and stays none -/
def NI (K : PySem.W.Frag) (H : Hp) (v : V) : Prop := ∀ H', Ke H H' → IsI K H' v false
theorem NI.ke {K : PySem.W.Frag} {H H' : Hp} {v : V} (h : NI K H v) (k : Ke H H') : NI K H' v := fun H2 k2 => h H2 (k.trans k2)
/-- whether a thing lies within, now and later -/
def IsV (K : PySem.W.Frag) (H : Hp) (v : V) (a b : Int) (r : Bool) : Prop := (∃ n, v = .int n ∧ r = decide (a ≤ n ∧ n ≤ b)) ∨ (NI K H v ∧ r = false)
theorem IsV.w {K : PySem.W.Frag} {H H' : Hp} {v : V} {a b : Int} {r : Bool} (h : IsV K H v a b r) (k : Ke H H') : IsW K H' v a b r := h.imp id fun ⟨x, y⟩ => ⟨x H' k, y⟩
theorem IsV.ke {K : PySem.W.Frag} {H H' : Hp} {v : V} {a b : Int} {r : Bool} (h : IsV K H v a b r) (k : Ke H H') : IsV K H' v a b r := h.imp id fun ⟨x, y⟩ => ⟨x.ke k, y⟩
theorem IsV.int {K : PySem.W.Frag} {H : Hp} {v : V} {a b : Int} (h : IsV K H v a b true) : ∃ n, v = .int n ∧ a ≤ n ∧ n ≤ b := by
  rcases h with ⟨n, e, h⟩ | ⟨_, h⟩
  · exact ⟨n, e, of_decide_eq_true h.symm⟩
  · cases h
def S3 (hd p l : Addr) : Addr → Prop := fun a => a = hd ∨ a = p ∨ a = l
/-- an office that stands beside the hand and the shop -/
def Std (K : PySem.W.Frag) (S : Addr → Prop) (H : Hp) (v : V) (o : Ofc) : Prop := ∃ q C, v = .ref q ∧ OC K C ∧ OfAt C (Hd S H) q o
theorem Std.ks {K : PySem.W.Frag} {S : Addr → Prop} {H H' : Hp} {v : V} {o : Ofc} (x : Std K S H v o) (k : Ks S H H') : Std K S H' v o := by
  obtain ⟨q, C, e, oc, of⟩ := x
  exact ⟨q, C, e, oc, of.ke (Hd.ke k)⟩
structure SH (K : PySem.W.Frag) (CS hd ca p l : Addr) (H : Hp) (o : Ofc) (os : List Ofc) : Prop where
  hA : HandAt H hd ca
  n1 : p ≠ hd
  n2 : l ≠ hd
  n3 : p ≠ ca
  n4 : l ≠ ca
  n5 : p ≠ l
  ex : ∃ dx q past, H p = some (.ins CS dx (shF q (.ref l))) ∧ H l = some (.lst past) ∧ Std K (S3 hd p l) H q o ∧ Paired (Std K (S3 hd p l) H) past os
theorem SH.ks {K : PySem.W.Frag} {CS hd ca p l : Addr} {H H' : Hp} {o : Ofc} {os : List Ofc} (x : SH K CS hd ca p l H o os) (k : Ks (fun a => a = hd) H H') (h : HandAt H' hd ca) : SH K CS hd ca p l H' o os := by
  obtain ⟨dx, q, past, h1, h2, h3, h4⟩ := x.ex
  have k' : Ks (S3 hd p l) H H' := k.mono fun _ z => .inl z
  exact ⟨h, x.n1, x.n2, x.n3, x.n4, x.n5, dx, q, past, k.keep _ _ x.n1 h1, k.keep _ _ x.n2 h2, h3.ks k', pimp (fun v o r => r.ks k') h4⟩
theorem SH.ke {K : PySem.W.Frag} {CS hd ca p l : Addr} {H H' : Hp} {o : Ofc} {os : List Ofc} (x : SH K CS hd ca p l H o os) (k : Ke H H') : SH K CS hd ca p l H' o os := x.ks k.ks (x.hA.ke k)
/-- where the shop's office lies -/
theorem SH.at {K : PySem.W.Frag} {CS hd ca p l : Addr} {H : Hp} {o : Ofc} {os : List Ofc} (x : SH K CS hd ca p l H o os) : ∃ dx q past C dxo vs vm vc vk, H p = some (.ins CS dx (shF (.ref q) (.ref l))) ∧ H l = some (.lst past) ∧ past.length = os.length ∧ OC K C ∧ OfAt C (Hd (S3 hd p l) H) q o ∧ H q = some (.ins C dxo (offF vs vm vc vk)) ∧ TI H vs o.sz ∧ MV H vm o.mv ∧ CL H vc o.cl ∧ Tx H (Hd (S3 hd p l) H) := by
  obtain ⟨dx, v, past, h1, h2, ⟨q, C, rfl, oc, of⟩, h4⟩ := x.ex
  obtain ⟨dxo, vs, vm, vc, lk, ds, hq, a1, a2, a3, _, _⟩ := of.ex
  have le : Tx (Hd (S3 hd p l) H) H := (Le.ke Hd.le).tx
  obtain ⟨cells, i, b, s, c, hh, _⟩ := x.hA
  refine ⟨dx, q, past, C, dxo, vs, vm, vc, _, h1, h2, plen h4, oc, of, (Hd.at hq).2, TI.stb _ _ _ _ le a1, TT.stb (TT.stb TI.stb) _ _ _ _ le a2, TT.stb TI.stb _ _ _ _ le a3, ⟨fun a xs e => Hd.get (fun z => ?_) e⟩⟩
  rcases z with rfl | rfl | rfl
  · rw [hh] at e; cases e
  · rw [h1] at e; cases e
  · rw [h2] at e; cases e
/-- what an office's data must be, if only by its shape -/
structure Shp (o : Ofc) : Prop where
  s3 : o.sz.length = 3
  n1 : 1 ≤ o.mv.length
  n2 : o.mv.length < 900000
  cl : o.cl.length = o.mv.length
  rw_ : ∀ r ∈ o.mv, r.length < 900000 ∧ ∀ m ∈ r, m ≠ []
  rc : ∀ r ∈ o.cl, r.length < 900000
  sh : Sizes o.sz → MovesSh o.sz o.mv ∧ ClosSh o.sz o.mv.length o.cl
def sp_is_mark (K : PySem.W.Frag) : Sp := fun xs H Q _ => ∃ C q o v a b c r, xs = [.ref q, v] ∧ OC K C ∧ OfAt C H q o ∧ o.sz = [a, b, c] ∧ IsW K H v 0 (c - 1) r ∧ Q (.bl r) H
def sp_is_note (K : PySem.W.Frag) : Sp := fun xs H Q _ => ∃ C q o t v0 v1 a b c r0 r1, xs = [.ref q, .ref t] ∧ OC K C ∧ OfAt C H q o ∧ o.sz = [a, b, c] ∧ H t = some (.tup [v0, v1]) ∧ IsW K H v0 0 (a - 1) r0 ∧ IsW K H v1 0 (b - 1) r1 ∧ Q (.bl (r0 && r1)) H
def sp_is_step (K : PySem.W.Frag) : Sp := fun xs H Q _ => ∃ C q o t v0 v1 v2 a b c r0 r1 r2, xs = [.ref q, .ref t] ∧ OC K C ∧ OfAt C H q o ∧ o.sz = [a, b, c] ∧ H t = some (.tup [v0, v1, v2]) ∧ IsV K H v0 0 (a - 1) r0 ∧ IsV K H v1 0 (b - 1) r1 ∧ IsV K H v2 0 (c - 1) r2 ∧ ∀ H', Ke H H' → Q (.bl (r0 && r1 && r2)) H'
section
variable {P : Program} {w : World} {K : PySem.W.Frag} {mg : Str → Option Value} {base : Heap} (T : Txt K mg)
include T
theorem ok_is_mark : FnOk P w K mg base CX0 3 T.a_is_mark T.d_is_mark P_is_mark (sp_is_mark K) := by
  refine T.F_is_mark.ok sc_is_mark (fun vs H Q E h => ?_) (fun cdv A outer s H vs Q E hr h => ?_)
  · obtain ⟨C, q, o, v, a, b, c, r, rfl, _⟩ := h; rfl
  · obtain ⟨C, q, o, v, a, b, c, r, rfl, oc, of, ez, hw, k⟩ := h
    obtain ⟨dx, vs, vm, vc, lk, ds, hq, ⟨zs, rfl, hz⟩, _⟩ := of.ex
    rw [ez] at hz
    refine ⟨_, (pss_one (ps_ret (pe_call (ok_is_within T) (hr.mono (by decide)) rfl T.g_is_within T.k_is_within T.b_is_within .nil pass0 (pa_cons (pv 1) (pa_cons pe_int (pa_cons (pe_op op_sub (pe_ix ix_tup (pe_fld (pv 0) rfl) pe_int (fun _ _ => rfl)) pe_int) pa_nil)))))), ?_⟩
    exact ⟨_, rfl, _, rfl, q, C, dx, _, _, rfl, hq, oc.c, oc.n1, offF_s _ _ _ _, zs, _, 2, _, rfl, rfl, SqT.of hz, rfl, _, _, rfl, rfl, v, 0, c - 1, r, rfl, hw, k⟩
theorem ok_is_note : FnOk P w K mg base CX0 3 T.a_is_note T.d_is_note P_is_note (sp_is_note K) := by
  refine T.F_is_note.ok sc_is_note (fun vs H Q E h => ?_) (fun cdv A outer s H vs Q E hr h => ?_)
  · obtain ⟨C, q, o, t, v0, v1, a, b, c, r0, r1, rfl, _⟩ := h; rfl
  · obtain ⟨C, q, o, t, v0, v1, a, b, c, r0, r1, rfl, oc, of, ez, ht, h0, h1, k⟩ := h
    obtain ⟨dx, vs, vm, vc, lk, ds, hq, ⟨zs, rfl, hz⟩, _⟩ := of.ex
    rw [ez] at hz
    refine ⟨_, (pss_cons (ps_if (PW.pt (pw_or (pt_not (pt_val (pe_call (ok_is_pair T) (hr.mono (by decide)) rfl T.g_is_pair T.k_is_pair T.b_is_pair .nil pass0 (pa_cons (pv 1) pa_nil)))) (pw_or1 (pt_not (pt_val (pe_call (ok_is_within T) (hr.mono (by decide)) rfl T.g_is_within T.k_is_within T.b_is_within .nil pass0 (pa_cons (pe_ix ix_tup (pv 1) pe_int (fun _ _ => rfl)) (pa_cons pe_int (pa_cons (pe_op op_sub (pe_ix ix_tup (pe_fld (pv 0) rfl) pe_int (fun _ _ => rfl)) pe_int) pa_nil))))))))) (pss_one (ps_ret pe_bl)) pss_nil)
  (pss_one (ps_ret (pe_call (ok_is_within T) (hr.mono (by decide)) rfl T.g_is_within T.k_is_within T.b_is_within .nil pass0 (pa_cons (pe_ix ix_tup (pv 1) pe_int (fun _ _ => rfl)) (pa_cons pe_int (pa_cons (pe_op op_sub (pe_ix ix_tup (pe_fld (pv 0) rfl) pe_int (fun _ _ => rfl)) pe_int) pa_nil))))))), ?_⟩
    refine ⟨_, rfl, t, _, rfl, ht, rfl, true, rfl, iteF ?_⟩
    refine ⟨_, rfl, t, _, 0, _, rfl, rfl, SqT.of ht, rfl, _, rfl, q, C, dx, _, _, rfl, hq, oc.c, oc.n1, offF_s _ _ _ _, zs, _, 0, _, rfl, rfl, SqT.of hz, rfl, _, _, rfl, rfl, v0, 0, a - 1, r0, rfl, h0, r0, rfl, ?_⟩
    cases r0 with
    | false => exact iteT k
    | true =>
      refine iteF ?_
      exact ⟨_, rfl, t, _, 1, _, rfl, rfl, SqT.of ht, rfl, _, rfl, q, C, dx, _, _, rfl, hq, oc.c, oc.n1, offF_s _ _ _ _, zs, _, 1, _, rfl, rfl, SqT.of hz, rfl, _, _, rfl, rfl, v1, 0, b - 1, r1, rfl, h1, k⟩
theorem ok_is_step : FnOk P w K mg base CX0 4 T.a_is_step T.d_is_step P_is_step (sp_is_step K) := by
  refine T.F_is_step.ok sc_is_step (fun vs H Q E h => ?_) (fun cdv A outer s H vs Q E hr h => ?_)
  · obtain ⟨C, q, o, t, v0, v1, v2, a, b, c, r0, r1, r2, rfl, _⟩ := h; rfl
  · obtain ⟨C, q, o, t, v0, v1, v2, a, b, c, r0, r1, r2, rfl, oc, of, ez, ht, h0, h1, h2, k⟩ := h
    refine ⟨_, (pss_one (ps_ret (pe_and (pe_call (ok_is_triple T) (hr.mono (by decide)) rfl T.g_is_triple T.k_is_triple T.b_is_triple .nil pass0 (pa_cons (pv 1) pa_nil)) (pe_and (pe_call (ok_is_note T) (hr.mono (by decide)) rfl T.g_is_note T.k_is_note T.b_is_note .nil pass0 (pa_cons (pv 0) (pa_cons (pe_slice sl_tupA (pv 1) po_none (po_some pe_int)) pa_nil))) (pe_one (pe_call (ok_is_mark T) (hr.mono (by decide)) rfl T.g_is_mark T.k_is_mark T.b_is_mark .nil pass0 (pa_cons (pv 0) (pa_cons (pe_ix ix_tup (pv 1) pe_int (fun _ _ => rfl)) pa_nil)))))))), ?_⟩
    refine ⟨_, rfl, t, _, rfl, ht, rfl, true, rfl, iteT ?_⟩
    refine ⟨_, rfl, _, rfl, 2, rfl, t, _, rfl, SqT.of ht, fun h => absurd h.2 (by show ¬ HT.sIx 3 3 (some 2) = 3; decide), fun _ t2 ht2 => ?_⟩
    have k2 : Ke H (upd H t2 (.tup (cutV [v0, v1, v2] none (some 2)))) := Ke.new ht2
    refine ⟨C, q, o, t2, v0, v1, a, b, c, r0, r1, rfl, oc, of.ke k2, ez, upd_same, h0.w k2, h1.w k2, r0 && r1, rfl, ?_⟩
    cases e : (r0 && r1) with
    | false =>
      refine iteF ?_
      have := k _ k2
      rw [e] at this
      exact this
    | true =>
      refine iteT ?_
      have := k _ k2
      rw [e, Bool.true_and] at this
      exact ⟨_, rfl, _, rfl, t, _, 2, _, rfl, rfl, SqT.of (k2.at ht), rfl, C, q, o, v2, a, b, c, r2, rfl, oc, of.ke k2, ez, h2.w k2, this⟩
end
end Fd
set_option Elab.async false
set_option linter.all false
set_option maxRecDepth 100000
set_option maxHeartbeats 4000000
namespace Fd
open PySem PySem.Spec PyProof.Rows L2
def sp_check_standing (K : PySem.W.Frag) (CS CE : Addr) : Sp := fun xs H Q E => ∃ hd ca p l o os v r, xs = [.ref p, v] ∧ SH K CS hd ca p l H o os ∧ IsW K H v 0 ((o.mv.length : Int) - 1) r ∧ (r = false → E (.ref CE) none H) ∧ (r = true → Q .non H)
def sp_check_mark (K : PySem.W.Frag) (CS CE : Addr) : Sp := fun xs H Q E => ∃ hd ca p l o os v a b c r, xs = [.ref p, v] ∧ SH K CS hd ca p l H o os ∧ o.sz = [a, b, c] ∧ IsW K H v 0 (c - 1) r ∧ (r = false → E (.ref CE) none H) ∧ (r = true → Q .non H)
/-- the office ahead goes to the past -/
def Mvd (CS p l : Addr) (H H' : Hp) : Prop := ∀ dx v past, H p = some (.ins CS dx (shF v (.ref l))) → H l = some (.lst past) → H' l = some (.lst (past ++ [v]))
/-- what becomes of the shop if its office is exchanged -/
def Chg (K : PySem.W.Frag) (CS CB hd ca p l : Addr) (H : Hp) (o : Ofc) (os : List Ofc) (mv : List (List (List Int))) (cl : List (List Int)) (Q : VK) (E : XK) : Prop :=
  (∀ z, BadP o.sz mv cl z → ∀ d H', Ke H H' → H' d = some (.xd [("part", .str z)]) → E (.ref CB) (some d) H') ∧
  (Good o.sz mv cl → ∀ H', Ks (S3 hd p l) H H' → SH K CS hd ca p l H' ⟨o.sz, mv, cl⟩ (os ++ [o]) → Mvd CS p l H H' → Q .non H')
theorem Chg.ke {K : PySem.W.Frag} {CS CB hd ca p l : Addr} {H H' : Hp} {o : Ofc} {os : List Ofc} {mv : List (List (List Int))} {cl : List (List Int)} {Q : VK} {E : XK} (x : Chg K CS CB hd ca p l H o os mv cl Q E) (k : Ke H H') : Chg K CS CB hd ca p l H' o os mv cl Q E :=
  ⟨fun z hz d H2 k2 => x.1 z hz d H2 (k.trans k2), fun g H2 k2 s2 m2 => x.2 g H2 (k.ks.trans k2) s2 fun dx v past h1 h2 => m2 dx v past (k.at h1) (k.at h2)⟩
def sp_change (K : PySem.W.Frag) (CS CB : Addr) : Sp := fun xs H Q E => ∃ hd ca p l o os vm vc mv cl, xs = [.ref p, vm, vc] ∧ SH K CS hd ca p l H o os ∧ os.length < 1000 ∧ MV H vm mv ∧ CL H vc cl ∧ o.sz.length = 3 ∧ mv.length < 1000000 ∧ (Sizes o.sz → MovesSh o.sz mv ∧ ClosSh o.sz mv.length cl) ∧ Chg K CS CB hd ca p l H o os mv cl Q E
section
variable {P : Program} {w : World} {K : PySem.W.Frag} {mg : Str → Option Value} {base : Heap} (T : Txt K mg) (Er : Err P K mg) (htop : (P.main.scope.names.lookup ("super" : Str)).isSome = false)
include T Er htop
theorem ok_Shop_check_standing : FnOk P w K mg base (L2.CX P w) 3 T.a_Shop_check_standing T.d_Shop_check_standing P_Shop_check_standing (sp_check_standing K T.a_Shop Er.a_NoStanding) := by
  refine T.F_Shop_check_standing.okX sc_Shop_check_standing (fun vs H Q E h => ?_) (fun cdv A outer s H vs Q E hr h => ?_)
  · obtain ⟨hd, ca, p, l, o, os, v, r, rfl, _⟩ := h; rfl
  · obtain ⟨hd, ca, p, l, o, os, v, r, rfl, sh, hw, kE, k⟩ := h
    have tk : Takes (cxOf (L2.CX P w) P w K mg base N_Shop_check_standing "Shop.check_standing" (defScope s_Shop_check_standing) T.a_Shop_check_standing cdv A outer s H E) (fun cls d _ H' => E cls d H') := takes_of rfl rfl rfl rfl
    obtain ⟨dx, q, past, C, dxo, vs, vm, vc, vk, hp, hl, lp, oc, of, hq, hz, ⟨mm, ms, rfl, hmm, pm⟩, hc, tx⟩ := sh.at
    refine ⟨_, (pss_one (ps_if (pt_not (pt_val (pe_call (ok_is_within T) (hr.mono (by decide)) rfl T.g_is_within T.k_is_within T.b_is_within .nil pass0 (pa_cons (pv 1) (pa_cons pe_int (pa_cons (pe_op op_sub (pe_callB call_len (by rfl) T.n_len (by decide +kernel) (pa_cons (pe_fld (pe_fld (pv 0) rfl) rfl) pa_nil)) pe_int) pa_nil)))))) (pss_one (ps_raise rfl tk (pmk_own0 F.excBase_ValueError Er.x_NoStanding Er.g_NoStanding Er.k_NoStanding (raises_own Er.s_NoStanding Er.t_NoStanding) rfl))) pss_nil)), ?_⟩
    refine ⟨_, rfl, _, rfl, p, T.a_Shop, dx, _, _, rfl, hp, T.c_Shop, T.f_Shop_kept_now, shF_n, q, C, dxo, _, _, rfl, hq, oc.c, oc.n2, offF_m _ _ _ _, .ref mm, _, rfl, .inr ⟨_, SqT.of hmm, rfl⟩, _, _, rfl, rfl, v, 0, _, r, rfl, (by rw [plen pm]; exact hw), r, rfl, ?_⟩
    cases r with
    | true => exact iteF (stepT (k rfl))
    | false => exact iteT (kE rfl)
theorem ok_Shop_check_mark : FnOk P w K mg base (L2.CX P w) 4 T.a_Shop_check_mark T.d_Shop_check_mark P_Shop_check_mark (sp_check_mark K T.a_Shop Er.a_NoMark) := by
  refine T.F_Shop_check_mark.okX sc_Shop_check_mark (fun vs H Q E h => ?_) (fun cdv A outer s H vs Q E hr h => ?_)
  · obtain ⟨hd, ca, p, l, o, os, v, a, b, c, r, rfl, _⟩ := h; rfl
  · obtain ⟨hd, ca, p, l, o, os, v, a, b, c, r, rfl, sh, ez, hw, kE, k⟩ := h
    have tk : Takes (cxOf (L2.CX P w) P w K mg base N_Shop_check_mark "Shop.check_mark" (defScope s_Shop_check_mark) T.a_Shop_check_mark cdv A outer s H E) (fun cls d _ H' => E cls d H') := takes_of rfl rfl rfl rfl
    obtain ⟨dx, q, past, C, dxo, vs, vm, vc, vk, hp, hl, lp, oc, of, hq, hz, hm, hc, tx⟩ := sh.at
    refine ⟨_, (pss_one (ps_if (pt_not (pt_val (pe_call (ok_is_mark T) (hr.mono (by decide)) rfl T.g_is_mark T.k_is_mark T.b_is_mark .nil pass0 (pa_cons (pe_fld (pv 0) rfl) (pa_cons (pv 1) pa_nil))))) (pss_one (ps_raise rfl tk (pmk_own0 F.excBase_ValueError Er.x_NoMark Er.g_NoMark Er.k_NoMark (raises_own Er.s_NoMark Er.t_NoMark) rfl))) pss_nil)), ?_⟩
    refine ⟨_, rfl, p, T.a_Shop, dx, _, _, rfl, hp, T.c_Shop, T.f_Shop_kept_now, shF_n, _, rfl, C, q, o, v, a, b, c, r, rfl, oc, of.ke (Le.ke Hd.le), ez, hw, r, rfl, ?_⟩
    cases r with
    | true => exact iteF (stepT (k rfl))
    | false => exact iteT (kE rfl)
theorem ok_Shop_change : FnOk P w K mg base (L2.CX P w) 7 T.a_Shop_change T.d_Shop_change P_Shop_change (sp_change K T.a_Shop Er.a_BadOffice) := by
  refine T.F_Shop_change.okX sc_Shop_change (fun vs H Q E h => ?_) (fun cdv A outer s H vs Q E hr h => ?_)
  · obtain ⟨hd, ca, p, l, o, os, vm, vc, mv, cl, rfl, _⟩ := h; rfl
  · obtain ⟨hd, ca, p, l, o, os, vm, vc, mv, cl, rfl, sh, los, hm, hc, h3, lmv, hsh, ch⟩ := h
    have tk : Takes (cxOf (L2.CX P w) P w K mg base N_Shop_change "Shop.change" (defScope s_Shop_change) T.a_Shop_change cdv A outer s H E) (fun cls d _ H' => E cls d H') := takes_of rfl rfl rfl rfl
    obtain ⟨dx, q, past, C, dxo, vs, vmo, vco, vk, hp, hl, lp, oc, of, hq, hz, _, _, tx⟩ := sh.at
    refine ⟨_, (pss_cons (ps_set (i := 3) sc_Shop_change.nd rfl (Or.inl rfl) (pe_make T.m_Office (ok_Office_init T Er htop) (hr.mono (by decide)) rfl T.g_Office T.b_Office_init .nil (passes_call tk fun _ _ _ _ h => h) (pa_cons (pe_fld (pe_fld (pv 0) rfl) rfl) (pa_cons (pv 1) (pa_cons (pv 2) pa_nil)))))
  (pss_cons (ps_expr (pe_bm PySem.F.plainAttrs_list PySem.F.slot_list_append PySem.F.type_list_append mt_append (pe_fld (pv 0) rfl) (pa_cons (pe_fld (pv 0) rfl) pa_nil)))
  (pss_one (ps_fld (pv 0) (pv 3) rfl)))), ?_⟩
    refine ⟨_, rfl, p, T.a_Shop, dx, _, _, rfl, hp, T.c_Shop, T.f_Shop_kept_now, shF_n, q, C, dxo, _, _, rfl, hq, oc.c, oc.n1, offF_s _ _ _ _, _, rfl, _, rfl, ?_⟩
    refine nilA fun x dx' hx hdx ndx => ?_
    have kA : Ke H (upd (upd H dx' (.own x)) x (.ins T.a_Office dx' [])) := (Ke.new hdx).trans (Ke.new (by rw [upd_ne ndx.symm]; exact hx))
    have x1 : x ≠ hd := fun z => sh.hA.there.1 (by rw [← z]; exact hx)
    have x0 : x ≠ ca := fun z => sh.hA.there.2 (by rw [← z]; exact hx)
    have x2 : x ≠ p := fun z => by rw [z, hp] at hx; cases hx
    have x3 : x ≠ l := fun z => by rw [z, hl] at hx; cases hx
    have shA := sh.ke kA
    obtain ⟨_, _, _, _, _, _, _, _, _, hpA, hlA, _, _, _, _, _, _, _, txA'⟩ := shA.at
    have txA := kA.tx.trans txA'
    refine ⟨S3 hd p l, x, dx', vs, vm, vc, o.sz, mv, cl, rfl, upd_same, fun z => ?_, fun y z => ?_, TI.stb _ _ _ _ txA hz, TT.stb (TT.stb TI.stb) _ _ _ _ txA hm, TT.stb TI.stb _ _ _ _ txA hc, h3, lmv, hsh, fun z hz' d H' k' => ch.1 z hz' d H' (kA.trans k'), fun g H4 k4 o4 => ⟨rfl, ?_⟩⟩
    · rcases z with z | z | z
      · exact x1 z
      · exact x2 z
      · exact x3 z
    · rcases z with z | z | z
      · rw [z]; exact shA.hA.there.1
      · rw [z, hpA]; exact fun z => nomatch z
      · rw [z, hlA]; exact fun z => nomatch z
    · have k04 : Ke H H4 := Ks.comp kA.ks k4 (fun _ z => z) fun y z => .inr (by rw [z]; exact hx)
      have sh4 := sh.ke k04
      have hp4 := k04.at hp
      have hl4 := k04.at hl
      have hA4 := sh4.hA
      refine stepN ?_
      dsimp only
      refine ⟨_, rfl, p, T.a_Shop, dx, _, _, rfl, hp4, T.c_Shop, T.f_Shop_kept_past, shF_p, .inl ⟨rfl, _, SqL.of hl4⟩, _, rfl, p, T.a_Shop, dx, _, _, rfl, hp4, T.c_Shop, T.f_Shop_kept_now, shF_n, l, past, .ref q, rfl, rfl, hl4, by rw [sizeLine_eq]; omega, ?_⟩
      have hp5 : (upd H4 l (.lst (past ++ [.ref q]))) p = some (.ins T.a_Shop dx (shF (.ref q) (.ref l))) := by rw [upd_ne sh.n5]; exact hp4
      refine ⟨_, rfl, _, rfl, p, T.a_Shop, dx, _, rfl, hp5, T.c_Shop, T.f_Shop_kept_now, (by show 2 < 1000; decide), ?_⟩
      rw [shF_put]
      have kS : Ks (S3 hd p l) H (upd (upd H4 l (.lst (past ++ [.ref q]))) p (.ins T.a_Shop dx (shF (.ref x) (.ref l)))) := (k04.ks.mut (.inr (.inr rfl)) (fun ys z => by rw [hl4] at z; cases z)).mut (.inr (.inl rfl)) (fun ys z => by rw [hp5] at z; cases z)
      have kS4 : Ks (S3 hd p l) H4 (upd (upd H4 l (.lst (past ++ [.ref q]))) p (.ins T.a_Shop dx (shF (.ref x) (.ref l)))) := (Ks.refl.mut (.inr (.inr rfl)) (fun ys z => by rw [hl4] at z; cases z)).mut (.inr (.inl rfl)) (fun ys z => by rw [hp5] at z; cases z)
      refine ch.2 g _ kS ⟨(hA4.mut sh.n2 sh.n4).mut sh.n1 sh.n3, sh.n1, sh.n2, sh.n3, sh.n4, sh.n5, dx, .ref x, past ++ [.ref q], upd_same, by rw [upd_ne sh.n5.symm]; exact upd_same, ⟨x, T.a_Office, rfl, T.oc, o4.ke (Hd.ke kS4)⟩, ?_⟩ (fun dx' v past' h1 h2 => ?_)
      rotate_left
      · rw [hp] at h1
        rw [hl] at h2
        have e2 : past = past' := by injection h2 with h2; injection h2
        have e1 : V.ref q = v := by
          injection h1 with h1
          injection h1 with _ _ h1
          have z1 := congrArg (List.lookup ("kept_now" : Str)) h1
          rw [shF_n, shF_n] at z1
          exact Option.some.inj z1
        subst e1 e2
        rw [upd_ne sh.n5.symm]; exact upd_same
      obtain ⟨_, q0, past0, e1, e2, e3, e4⟩ := sh.ex
      rw [hp] at e1
      rw [hl] at e2
      have e2' : past = past0 := by injection e2 with e2; injection e2
      have e1' : V.ref q = q0 := by
        injection e1 with e1
        injection e1 with _ _ e1
        have z1 := congrArg (List.lookup ("kept_now" : Str)) e1
        rw [shF_n, shF_n] at z1
        exact Option.some.inj z1
      subst e2' e1'
      exact papp (pimp (fun v o r => r.ks kS) e4) (.cons (e3.ks kS) .nil)
end
end Fd
set_option Elab.async false
set_option linter.all false
set_option maxRecDepth 100000
set_option maxHeartbeats 4000000
namespace Fd
open PySem PySem.Spec PyProof.Rows L2
def sp_put (K : PySem.W.Frag) (CS CN CT CB : Addr) : Sp := fun xs H Q E => ∃ hd ca p l o os v0 v1 v2 v3 v4 a b c r0 r1 r2 r3 r4, xs = [.ref p, v0, v1, v2, v3, v4] ∧ SH K CS hd ca p l H o os ∧ os.length < 1000 ∧ Shp o ∧ o.sz = [a, b, c] ∧
  IsV K H v0 0 ((o.mv.length : Int) - 1) r0 ∧ IsV K H v1 0 (a - 1) r1 ∧ IsV K H v2 0 (b - 1) r2 ∧ IsV K H v3 0 (c - 1) r3 ∧ IsV K H v4 0 ((o.mv.length : Int) - 1) r4 ∧
  (r0 = false → ∀ H', Ke H H' → E (.ref CN) none H') ∧ (r0 = true → (r1 && r2 && r3) = false → ∀ H', Ke H H' → E (.ref CT) none H') ∧ (r0 = true → (r1 && r2 && r3) = true → r4 = false → ∀ H', Ke H H' → E (.ref CN) none H') ∧
  (∀ (n : Nat) x y z g row, v0 = .int n → v1 = .int x → v2 = .int y → v3 = .int z → v4 = .int g → o.mv[n]? = some row → (0 ≤ x ∧ x ≤ a - 1) → (0 ≤ y ∧ y ≤ b - 1) → (0 ≤ z ∧ z ≤ c - 1) → (0 ≤ g ∧ g ≤ (o.mv.length : Int) - 1) → Chg K CS CB hd ca p l H o os (o.mv.set n (sortT (row ++ [[x, y, z, g]]))) o.cl Q E)
def sp_strike (K : PySem.W.Frag) (CS CN CM : Addr) : Sp := fun xs H Q E => ∃ hd ca p l o os v0 v1 r0, xs = [.ref p, v0, v1] ∧ SH K CS hd ca p l H o os ∧ IsV K H v0 0 ((o.mv.length : Int) - 1) r0 ∧
  (r0 = false → E (.ref CN) none H) ∧ (r0 = true → ∃ n : Nat, ∃ row, v0 = .int n ∧ o.mv[n]? = some row ∧ IsV K H v1 0 ((row.length : Int) - 1) false ∧ E (.ref CM) none H)
def sp_shuts (K : PySem.W.Frag) (CS CN CM CB : Addr) : Sp := fun xs H Q E => ∃ hd ca p l o os v0 v1 a b c r0 r1, xs = [.ref p, v0, v1] ∧ SH K CS hd ca p l H o os ∧ os.length < 1000 ∧ Shp o ∧ o.sz = [a, b, c] ∧ IsV K H v0 0 ((o.mv.length : Int) - 1) r0 ∧ IsV K H v1 0 (c - 1) r1 ∧
  (r0 = false → E (.ref CN) none H) ∧ (r0 = true → r1 = false → E (.ref CM) none H) ∧ (∀ (n : Nat) k row, v0 = .int n → v1 = .int k → o.cl[n]? = some row → (0 ≤ k ∧ k ≤ c - 1) → Chg K CS CB hd ca p l H o os o.mv (o.cl.set n (sortI (row ++ [k]))) Q E)
def sp_shuts_not (K : PySem.W.Frag) (CS CN CM : Addr) : Sp := fun xs H Q E => ∃ hd ca p l o os v0 v1 a b c r0 r1, xs = [.ref p, v0, v1] ∧ SH K CS hd ca p l H o os ∧ Shp o ∧ o.sz = [a, b, c] ∧ IsV K H v0 0 ((o.mv.length : Int) - 1) r0 ∧ IsV K H v1 0 (c - 1) r1 ∧
  (r0 = false → E (.ref CN) none H) ∧ (r0 = true → E (.ref CM) none H) ∧ (∀ (n : Nat) k row, v0 = .int n → v1 = .int k → o.cl[n]? = some row → k ∉ row)
def sp_add (K : PySem.W.Frag) (CS CB : Addr) : Sp := fun xs H Q E => ∃ hd ca p l o os, xs = [.ref p] ∧ SH K CS hd ca p l H o os ∧ os.length < 1000 ∧ Shp o ∧ Chg K CS CB hd ca p l H o os (o.mv ++ [[]]) (o.cl ++ [[]]) Q E
def sp_back (K : PySem.W.Frag) (CS CD : Addr) : Sp := fun xs H Q E => ∃ hd ca p l o os, xs = [.ref p] ∧ SH K CS hd ca p l H o os ∧ os.length < 1000 ∧ (os = [] → E (.ref CD) none H) ∧ ∀ os' o', os = os' ++ [o'] → ∀ H', Ks (S3 hd p l) H H' → SH K CS hd ca p l H' o' os' → (∀ dx v past w, H p = some (.ins CS dx (shF v (.ref l))) → H l = some (.lst (past ++ [w])) → H' p = some (.ins CS dx (shF w (.ref l)))) → Q .non H'
def sp_office (K : PySem.W.Frag) (CS : Addr) : Sp := fun xs H Q _ => ∃ hd ca p l o os, xs = [.ref p] ∧ SH K CS hd ca p l H o os ∧ ∀ dx q, H p = some (.ins CS dx (shF (.ref q) (.ref l))) → Std K (S3 hd p l) H (.ref q) o → Q (.ref q) H
def sp_depth (K : PySem.W.Frag) (CS : Addr) : Sp := fun xs H Q _ => ∃ hd ca p l o os, xs = [.ref p] ∧ SH K CS hd ca p l H o os ∧ Q (.int os.length) H
def sp_shop (CS : Addr) : Sp := fun xs H Q _ => ∃ p dx v, xs = [.ref p, v] ∧ H p = some (.ins CS dx []) ∧ ∀ l, H l = none → Q .non (upd (upd (upd H p (.ins CS dx (putF "kept_now" v []))) l (.lst [])) p (.ins CS dx (shF v (.ref l))))
section
variable {P : Program} {w : World} {K : PySem.W.Frag} {mg : Str → Option Value} {base : Heap} (T : Txt K mg) (Er : Err P K mg) (htop : (P.main.scope.names.lookup ("super" : Str)).isSome = false)
section
include T
theorem ok_Shop_init : FnOk P w K mg base CX0 1 T.a_Shop_init T.d_Shop_init P_Shop_init (sp_shop T.a_Shop) := by
  refine T.F_Shop_init.ok sc_Shop_init (fun vs H Q E h => ?_) (fun cdv A outer s H vs Q E hr h => ?_)
  · obtain ⟨p, dx, v, rfl, _⟩ := h; rfl
  · obtain ⟨p, dx, v, rfl, hp, k⟩ := h
    refine ⟨_, (pss_cons (ps_fld (pv 0) (pv 1) rfl)
  (pss_one (ps_fld (pv 0) (pe_lst pa_nil) rfl))), ?_⟩
    refine ⟨_, rfl, _, rfl, p, T.a_Shop, dx, [], rfl, hp, T.c_Shop, T.f_Shop_kept_now, by decide, ?_⟩
    refine ⟨by decide, fun l hl => ?_⟩
    have npl : p ≠ l := fun z => by rw [← z, upd_same] at hl; cases hl
    have hl0 : H l = none := by rw [upd_ne npl.symm] at hl; exact hl
    exact ⟨_, rfl, p, T.a_Shop, dx, _, rfl, by rw [upd_ne npl, upd_same], T.c_Shop, T.f_Shop_kept_past, (by show 1 < 1000; decide), k l hl0⟩
theorem ok_Shop_office : FnOk P w K mg base CX0 1 T.a_Shop_office T.d_Shop_office P_Shop_office (sp_office K T.a_Shop) := by
  refine T.F_Shop_office.ok sc_Shop_office (fun vs H Q E h => ?_) (fun cdv A outer s H vs Q E hr h => ?_)
  · obtain ⟨hd, ca, p, l, o, os, rfl, _⟩ := h; rfl
  · obtain ⟨hd, ca, p, l, o, os, rfl, sh, k⟩ := h
    obtain ⟨dx, q, past, C, dxo, vs, vm, vc, vk, hp, hl, lp, oc, of, hq, hz, hm, hc, tx⟩ := sh.at
    refine ⟨_, (pss_one (ps_ret (pe_fld (pv 0) rfl))), ?_⟩
    exact ⟨_, rfl, p, T.a_Shop, dx, _, _, rfl, hp, T.c_Shop, T.f_Shop_kept_now, shF_n, k dx q hp ⟨q, C, rfl, oc, of⟩⟩
theorem ok_Shop_depth : FnOk P w K mg base CX0 1 T.a_Shop_depth T.d_Shop_depth P_Shop_depth (sp_depth K T.a_Shop) := by
  refine T.F_Shop_depth.ok sc_Shop_depth (fun vs H Q E h => ?_) (fun cdv A outer s H vs Q E hr h => ?_)
  · obtain ⟨hd, ca, p, l, o, os, rfl, _⟩ := h; rfl
  · obtain ⟨hd, ca, p, l, o, os, rfl, sh, k⟩ := h
    obtain ⟨dx, q, past, C, dxo, vs, vm, vc, vk, hp, hl, lp, oc, of, hq, hz, hm, hc, tx⟩ := sh.at
    refine ⟨_, (pss_one (ps_ret (pe_callB call_len (by rfl) T.n_len (by decide +kernel) (pa_cons (pe_fld (pv 0) rfl) pa_nil)))), ?_⟩
    exact ⟨_, rfl, p, T.a_Shop, dx, _, _, rfl, hp, T.c_Shop, T.f_Shop_kept_past, shF_p, .ref l, _, rfl, .inl ⟨_, SqL.of hl, rfl⟩, by rw [lp]; exact k⟩
end
include T Er htop
theorem ok_Shop_back : FnOk P w K mg base (L2.CX P w) 1 T.a_Shop_back T.d_Shop_back P_Shop_back (sp_back K T.a_Shop Er.a_NothingDone) := by
  refine T.F_Shop_back.okX sc_Shop_back (fun vs H Q E h => ?_) (fun cdv A outer s H vs Q E hr h => ?_)
  · obtain ⟨hd, ca, p, l, o, os, rfl, _⟩ := h; rfl
  · obtain ⟨hd, ca, p, l, o, os, rfl, sh, los, kE, k⟩ := h
    have tk : Takes (cxOf (L2.CX P w) P w K mg base N_Shop_back "Shop.back" (defScope s_Shop_back) T.a_Shop_back cdv A outer s H E) (fun cls d _ H' => E cls d H') := takes_of rfl rfl rfl rfl
    obtain ⟨dx, v, past, hp, hl, hst, hpa⟩ := sh.ex
    have lp := plen hpa
    refine ⟨_, (pss_cons (ps_if (pt_cmpR op_eq (pe_callB call_len (by rfl) T.n_len (by decide +kernel) (pa_cons (pe_fld (pv 0) rfl) pa_nil)) pe_int (nomark _)) (pss_one (ps_raise rfl tk (pmk_own0 F.excBase_ValueError Er.x_NothingDone Er.g_NothingDone Er.k_NothingDone (raises_own Er.s_NothingDone Er.t_NothingDone) rfl))) pss_nil)
  (pss_one (ps_fld (pv 0) (pe_bm0 PySem.F.plainAttrs_list PySem.F.slot_list_pop PySem.F.type_list_pop mt_pop (pe_fld (pv 0) rfl)) rfl))), ?_⟩
    refine ⟨_, rfl, p, T.a_Shop, dx, _, _, rfl, hp, T.c_Shop, T.f_Shop_kept_past, shF_p, .ref l, past.length, rfl, .inl ⟨_, SqL.of hl, rfl⟩, rfl, _, rfl, ?_⟩
    by_cases c0 : os = []
    · refine iteT' (decide_eq_true (by rw [lp, c0]; rfl)) (kE c0)
    · have c1 := List.length_pos_iff.mpr c0
      refine iteF' (fun z => by have z' := of_decide_eq_true z; injection z' with z'; omega) (stepT ?_)
      obtain ⟨os', o', eos⟩ : ∃ os' o', os = os' ++ [o'] := ⟨os.dropLast, os.getLast c0, (List.dropLast_concat_getLast c0).symm⟩
      have hlast : os[os.length - 1]? = some o' := by rw [eos]; simp
      obtain ⟨u, hu', su⟩ := pget hpa hlast
      have hu2 : past[past.length - 1]? = some u := by rw [lp]; exact hu'
      refine ⟨_, rfl, p, T.a_Shop, dx, _, _, rfl, hp, T.c_Shop, T.f_Shop_kept_past, shF_p, .inl ⟨rfl, _, SqL.of hl⟩, l, past, u, rfl, rfl, hl, hu2, ?_⟩
      have hp5 : (upd H l (.lst past.dropLast)) p = some (.ins T.a_Shop dx (shF v (.ref l))) := by rw [upd_ne sh.n5]; exact hp
      refine ⟨_, rfl, p, T.a_Shop, dx, _, rfl, hp5, T.c_Shop, T.f_Shop_kept_now, (by show 2 < 1000; decide), ?_⟩
      rw [shF_put]
      have kS : Ks (S3 hd p l) H (upd (upd H l (.lst past.dropLast)) p (.ins T.a_Shop dx (shF u (.ref l)))) := (Ks.refl.mut (.inr (.inr rfl)) (fun ys z => by rw [hl] at z; cases z)).mut (.inr (.inl rfl)) (fun ys z => by rw [hp5] at z; cases z)
      refine k os' o' eos _ kS ⟨(sh.hA.mut sh.n2 sh.n4).mut sh.n1 sh.n3, sh.n1, sh.n2, sh.n3, sh.n4, sh.n5, dx, u, past.dropLast, upd_same, by rw [upd_ne sh.n5.symm]; exact upd_same, su.ks kS, ?_⟩ (fun dx' v' past' w' h1 h2 => ?_)
      rotate_left
      · rw [hp] at h1
        rw [hl] at h2
        have e2 : past = past' ++ [w'] := by injection h2 with h2; injection h2
        have e3 : dx = dx' := by injection h1 with h1; injection h1
        have e4 : u = w' := by
          rw [e2] at hu2
          simp at hu2
          exact hu2.symm
        subst e3 e4
        exact upd_same
      have e1 : past.dropLast = past.take os'.length := by
        rw [List.dropLast_eq_take, lp, eos, List.length_append]; rfl
      have e2 : os' = os.take os'.length := by rw [eos, List.take_left]
      rw [e1] at kS ⊢
      have := ptake os'.length hpa
      rw [← e2] at this
      exact pimp (fun v o r => r.ks kS) this
theorem ok_Shop_add : FnOk P w K mg base (L2.CX P w) 8 T.a_Shop_add T.d_Shop_add P_Shop_add (sp_add K T.a_Shop Er.a_BadOffice) := by
  refine T.F_Shop_add.okX sc_Shop_add (fun vs H Q E h => ?_) (fun cdv A outer s H vs Q E hr h => ?_)
  · obtain ⟨hd, ca, p, l, o, os, rfl, _⟩ := h; rfl
  · obtain ⟨hd, ca, p, l, o, os, rfl, sh, los, shp, ch⟩ := h
    have tk : Takes (cxOf (L2.CX P w) P w K mg base N_Shop_add "Shop.add" (defScope s_Shop_add) T.a_Shop_add cdv A outer s H E) (fun cls d _ H' => E cls d H') := takes_of rfl rfl rfl rfl
    obtain ⟨dx, q, past, C, dxo, vs, vm, vc, vk, hp, hl, lp, oc, of, hq, hz, hm, hc, tx⟩ := sh.at
    refine ⟨_, (pss_one (ps_expr (pe_meth (pv 0) T.c_Shop T.t_Shop_change (ok_Shop_change T Er htop) (hr.mono (by decide)) T.b_Shop_change .nil (passes_call tk fun _ _ _ _ h => h) (pa_cons (pe_op op_catA (pe_fld (pe_fld (pv 0) rfl) rfl) (pe_tup (pa_cons (pe_tup pa_nil) pa_nil))) (pa_cons (pe_op op_catA (pe_fld (pe_fld (pv 0) rfl) rfl) (pe_tup (pa_cons (pe_tup pa_nil) pa_nil))) pa_nil))))), ?_⟩
    refine ⟨_, rfl, p, dx, _, rfl, hp, rfl, ?_⟩
    refine ⟨_, rfl, p, T.a_Shop, dx, _, _, rfl, hp, T.c_Shop, T.f_Shop_kept_now, shF_n, q, C, dxo, _, _, rfl, hq, oc.c, oc.n2, offF_m _ _ _ _, by decide, fun e0 he0 => ⟨(by show 1 ≤ sizeLine; decide), fun t1 ht1 => ?_⟩⟩
    have k1 : Ke H (upd (upd H e0 (.tup [])) t1 (.tup [.ref e0])) := (Ke.new he0).trans (Ke.new ht1)
    have he1 := (Ke.new (o := HO.tup [V.ref e0]) ht1).at (upd_same (H := H) (a := e0) (o := HO.tup []))
    refine cat_row (TT.stb TI.stb) (TT.stb (TT.stb TI.stb) _ _ _ _ k1.tx hm) (⟨t1, [.ref e0], rfl, upd_same, .cons ⟨e0, [], rfl, he1, .nil⟩ .nil⟩ : TT (TT TI) _ _ [[]]) (by have := shp.n2; simp; omega) fun v1 H2 k2 h1 => ?_
    have k02 := k1.trans k2
    refine ⟨_, rfl, p, T.a_Shop, dx, _, _, rfl, k02.at hp, T.c_Shop, T.f_Shop_kept_now, shF_n, q, C, dxo, _, _, rfl, k02.at hq, oc.c, oc.n3, offF_c _ _ _ _, by decide, fun e2 he2 => ⟨(by show 1 ≤ sizeLine; decide), fun t3 ht3 => ?_⟩⟩
    have k3 : Ke H2 (upd (upd H2 e2 (.tup [])) t3 (.tup [.ref e2])) := (Ke.new he2).trans (Ke.new ht3)
    have he3 := (Ke.new (o := HO.tup [V.ref e2]) ht3).at (upd_same (H := H2) (a := e2) (o := HO.tup []))
    refine cat_row TI.stb (TT.stb TI.stb _ _ _ _ (k02.trans k3).tx hc) (⟨t3, [.ref e2], rfl, upd_same, .cons ⟨e2, rfl, he3⟩ .nil⟩ : TT TI _ _ [[]]) (by have := shp.n2; have := shp.cl; simp; omega) fun v2 H4 k4 h2 => ?_
    have k24 := k3.trans k4
    refine nilA ⟨hd, ca, p, l, o, os, v1, v2, o.mv ++ [[]], o.cl ++ [[]], rfl, sh.ke (k02.trans k24), los, TT.stb (TT.stb TI.stb) _ _ _ _ k24.tx h1, h2, shp.s3, by have := shp.n2; simp; omega, fun z => ?_, ch.ke (k02.trans k24)⟩
    obtain ⟨⟨m1, m2⟩, ⟨c1, c2⟩⟩ := shp.sh z
    have en : (((o.mv ++ [[]]).length : Nat) : Int) = (o.mv.length : Int) + 1 := by rw [List.length_append, List.length_singleton]; omega
    refine ⟨⟨by simp, fun r hr => ?_⟩, ⟨by rw [en, List.length_append, List.length_singleton]; omega, fun r hr => ?_⟩⟩
    · rw [en]
      rcases List.mem_append.mp hr with y | y
      · exact ⟨fun m hm => ((m2 r y).1 m hm).mono (by omega), (m2 r y).2⟩
      · rw [List.mem_singleton.mp y]; exact ⟨(fun m hm => by cases hm), by decide⟩
    · rcases List.mem_append.mp hr with y | y
      · exact c2 r y
      · rw [List.mem_singleton.mp y]; exact ⟨(fun m hm => by cases hm), by decide⟩
end
end Fd
set_option Elab.async false
set_option linter.all false
set_option maxRecDepth 100000
set_option maxHeartbeats 4000000
namespace Fd
open PySem PySem.Spec PyProof.Rows L2
section
variable {P : Program} {w : World} {K : PySem.W.Frag} {mg : Str → Option Value} {base : Heap} (T : Txt K mg) (Er : Err P K mg) (htop : (P.main.scope.names.lookup ("super" : Str)).isSome = false)
include T Er htop
theorem ok_Shop_strike : FnOk P w K mg base (L2.CX P w) 8 T.a_Shop_strike T.d_Shop_strike P_Shop_strike (sp_strike K T.a_Shop Er.a_NoStanding Er.a_NoMove) := by
  refine T.F_Shop_strike.okX sc_Shop_strike (fun vs H Q E h => ?_) (fun cdv A outer s H vs Q E hr h => ?_)
  · obtain ⟨hd, ca, p, l, o, os, v0, v1, r0, rfl, _⟩ := h; rfl
  · obtain ⟨hd, ca, p, l, o, os, v0, v1, r0, rfl, sh, h0, kE, k⟩ := h
    have tk : Takes (cxOf (L2.CX P w) P w K mg base N_Shop_strike "Shop.strike" (defScope s_Shop_strike) T.a_Shop_strike cdv A outer s H E) (fun cls d _ H' => E cls d H') := takes_of rfl rfl rfl rfl
    obtain ⟨dx, q, past, C, dxo, vs, vm, vc, vk, hp, hl, lp, oc, of, hq, hz, ⟨mm, ms, rfl, hmm, pm⟩, hc, tx⟩ := sh.at
    refine ⟨_, (pss_cons (ps_expr (pe_meth (pv 0) T.c_Shop T.t_Shop_check_standing (ok_Shop_check_standing T Er htop) (hr.mono (by decide)) T.b_Shop_check_standing .nil (passes_call tk fun _ _ _ _ h => h) (pa_cons (pv 1) pa_nil)))
  (pss_cons (ps_set (i := 3) sc_Shop_strike.nd rfl (Or.inl rfl) (pe_fld (pe_fld (pv 0) rfl) rfl))
  (pss_cons (ps_set (i := 4) sc_Shop_strike.nd rfl (Or.inl rfl) (pe_ix ix_tup (pv 3) (pv 1) (fun _ _ => rfl)))
  (pss_cons (ps_if (pt_not (pt_val (pe_call (ok_is_within T) (hr.mono (by decide)) rfl T.g_is_within T.k_is_within T.b_is_within .nil pass0 (pa_cons (pv 2) (pa_cons pe_int (pa_cons (pe_op op_sub (pe_callB call_len (by rfl) T.n_len (by decide +kernel) (pa_cons (pv 4) pa_nil)) pe_int) pa_nil)))))) (pss_one (ps_raise rfl tk (pmk_own0 F.excBase_ValueError Er.x_NoMove Er.g_NoMove Er.k_NoMove (raises_own Er.s_NoMove Er.t_NoMove) rfl))) pss_nil)
  (pss_one (ps_expr (pe_meth (pv 0) T.c_Shop T.t_Shop_change (ok_Shop_change T Er htop) (hr.mono (by decide)) T.b_Shop_change .nil (passes_call tk fun _ _ _ _ h => h) (pa_cons (pe_call (ok_exchanged T) (hr.mono (by decide)) rfl T.g_exchanged T.k_exchanged T.b_exchanged .nil pass0 (pa_cons (pv 3) (pa_cons (pv 1) (pa_cons (pe_op op_catA (pe_slice sl_tupA (pv 4) po_none (po_some (pv 2))) (pe_slice sl_tupA (pv 4) (po_some (pe_op op_add (pv 2) pe_int)) po_none)) pa_nil)))) (pa_cons (pe_fld (pe_fld (pv 0) rfl) rfl) pa_nil))))))))), ?_⟩
    refine ⟨_, rfl, p, dx, _, rfl, hp, rfl, _, rfl, hd, ca, p, l, o, os, v0, r0, rfl, sh, h0.w .refl, kE, fun e0 => ?_⟩
    obtain ⟨n, row, rfl, hrow, h1, kM⟩ := k e0
    obtain ⟨rv, hrv, ra, rws, rfl, hra, prw⟩ := pget pm hrow
    have irv : atI ms (n : Int) = some (.ref ra) := atI_nat hrv rfl
    refine ⟨_, rfl, p, T.a_Shop, dx, _, _, rfl, hp, T.c_Shop, T.f_Shop_kept_now, shF_n, q, C, dxo, _, _, rfl, hq, oc.c, oc.n2, offF_m _ _ _ _, stepN ?_⟩
    refine ⟨_, rfl, _, rfl, mm, ms, n, _, rfl, rfl, SqT.of hmm, irv, stepN ?_⟩
    exact ⟨_, rfl, _, rfl, .ref ra, _, rfl, .inr ⟨_, SqT.of hra, rfl⟩, _, _, rfl, rfl, v1, 0, _, false, rfl, (by rw [plen prw]; exact h1.w .refl), false, rfl, iteT kM⟩
theorem ok_Shop_shuts : FnOk P w K mg base (L2.CX P w) 8 T.a_Shop_shuts T.d_Shop_shuts P_Shop_shuts (sp_shuts K T.a_Shop Er.a_NoStanding Er.a_NoMark Er.a_BadOffice) := by
  refine T.F_Shop_shuts.okX sc_Shop_shuts (fun vs H Q E h => ?_) (fun cdv A outer s H vs Q E hr h => ?_)
  · obtain ⟨hd, ca, p, l, o, os, v0, v1, a, b, c, r0, r1, rfl, _⟩ := h; rfl
  · obtain ⟨hd, ca, p, l, o, os, v0, v1, a, b, c, r0, r1, rfl, sh, los, shp, ez, h0, h1, kE, kM, k⟩ := h
    have tk : Takes (cxOf (L2.CX P w) P w K mg base N_Shop_shuts "Shop.shuts" (defScope s_Shop_shuts) T.a_Shop_shuts cdv A outer s H E) (fun cls d _ H' => E cls d H') := takes_of rfl rfl rfl rfl
    obtain ⟨dx, q, past, C, dxo, vs, vm, vc, vk, hp, hl, lp, oc, of, hq, hz, hm, ⟨cm, cs, rfl, hcm, pc⟩, tx⟩ := sh.at
    refine ⟨_, (pss_cons (ps_expr (pe_meth (pv 0) T.c_Shop T.t_Shop_check_standing (ok_Shop_check_standing T Er htop) (hr.mono (by decide)) T.b_Shop_check_standing .nil (passes_call tk fun _ _ _ _ h => h) (pa_cons (pv 1) pa_nil)))
  (pss_cons (ps_expr (pe_meth (pv 0) T.c_Shop T.t_Shop_check_mark (ok_Shop_check_mark T Er htop) (hr.mono (by decide)) T.b_Shop_check_mark .nil (passes_call tk fun _ _ _ _ h => h) (pa_cons (pv 2) pa_nil)))
  (pss_cons (ps_set (i := 3) sc_Shop_shuts.nd rfl (Or.inl rfl) (pe_fld (pe_fld (pv 0) rfl) rfl))
  (pss_one (ps_expr (pe_meth (pv 0) T.c_Shop T.t_Shop_change (ok_Shop_change T Er htop) (hr.mono (by decide)) T.b_Shop_change .nil (passes_call tk fun _ _ _ _ h => h) (pa_cons (pe_fld (pe_fld (pv 0) rfl) rfl) (pa_cons (pe_call (ok_exchanged T) (hr.mono (by decide)) rfl T.g_exchanged T.k_exchanged T.b_exchanged .nil pass0 (pa_cons (pv 3) (pa_cons (pv 1) (pa_cons (pe_call (ok_with_item T) (hr.mono (by decide)) rfl T.g_with_item T.k_with_item T.b_with_item .nil pass0 (pa_cons (pe_ix ix_tup (pv 3) (pv 1) (fun _ _ => rfl)) (pa_cons (pv 2) pa_nil))) pa_nil)))) pa_nil)))))))), ?_⟩
    refine ⟨_, rfl, p, dx, _, rfl, hp, rfl, _, rfl, hd, ca, p, l, o, os, v0, r0, rfl, sh, h0.w .refl, kE, fun e0 => ?_⟩
    refine ⟨_, rfl, p, dx, _, rfl, hp, rfl, _, rfl, hd, ca, p, l, o, os, v1, a, b, c, r1, rfl, sh, ez, h1.w .refl, kM e0, fun e1 => ?_⟩
    rw [e0] at h0
    rw [e1] at h1
    obtain ⟨n0, rfl, n1, n2⟩ := h0.int
    obtain ⟨kk, rfl, k1, k2⟩ := h1.int
    obtain ⟨n, rfl⟩ : ∃ n : Nat, n0 = (n : Int) := ⟨n0.toNat, by omega⟩
    have hcl := shp.cl
    obtain ⟨cro, hcro⟩ : ∃ r, o.cl[n]? = some r := ⟨_, List.getElem?_eq_getElem (by omega)⟩
    obtain ⟨cv, hcv, cra, rfl, hcra⟩ := pget pc hcro
    have lro := shp.rc cro (List.mem_of_getElem? hcro)
    refine ⟨_, rfl, p, T.a_Shop, dx, _, _, rfl, hp, T.c_Shop, T.f_Shop_kept_now, shF_n, q, C, dxo, _, _, rfl, hq, oc.c, oc.n3, offF_c _ _ _ _, stepN ?_⟩
    refine ⟨_, rfl, p, dx, _, rfl, hp, rfl, _, rfl, p, T.a_Shop, dx, _, _, rfl, hp, T.c_Shop, T.f_Shop_kept_now, shF_n, q, C, dxo, _, _, rfl, hq, oc.c, oc.n2, offF_m _ _ _ _, ?_⟩
    refine ⟨_, rfl, _, rfl, _, rfl, _, rfl, cm, cs, n, _, rfl, rfl, SqT.of hcm, atI_nat hcv rfl, _, rfl, .ref cra, .int kk, rfl, .inr ⟨cro, kk, ⟨cra, rfl, hcra⟩, rfl, by omega, fun v' H1 k1' hv' => ?_⟩⟩
    refine ⟨List Int, TI, .ref cm, v', n, o.cl, sortI (cro ++ [kk]), rfl, TI.stb, ⟨cm, cs, rfl, k1'.at hcm, pimp (fun v x r => TI.stb _ _ v x k1'.tx r) pc⟩, hv', by omega, by have := shp.n2; omega, fun v2 H2 k2' hv2 => ?_⟩
    have k02 := k1'.trans k2'
    refine nilA ⟨hd, ca, p, l, o, os, vm, v2, o.mv, o.cl.set n (sortI (cro ++ [kk])), rfl, sh.ke k02, los, TT.stb (TT.stb TI.stb) _ _ _ _ k02.tx hm, hv2, shp.s3, by have := shp.n2; omega, fun z => ?_, (k n kk cro rfl rfl hcro ⟨k1, k2⟩).ke k02⟩
    obtain ⟨m, ⟨c1, c2⟩⟩ := shp.sh z
    refine ⟨m, ⟨by rw [List.length_set]; exact c1, fun r hr => ?_⟩⟩
    rcases List.mem_or_eq_of_mem_set hr with y | y
    · exact c2 r y
    · rw [y]
      refine ⟨fun x hx => ?_, by rw [len_sortI, List.length_append, List.length_singleton]; omega⟩
      rcases List.mem_append.mp (mem_sortI.mp hx) with z | z
      · exact (c2 cro (List.mem_of_getElem? hcro)).1 x z
      · rw [List.mem_singleton.mp z]; exact ⟨a, b, c, ez, k1, k2⟩
theorem ok_Shop_shuts_not : FnOk P w K mg base (L2.CX P w) 8 T.a_Shop_shuts_not T.d_Shop_shuts_not P_Shop_shuts_not (sp_shuts_not K T.a_Shop Er.a_NoStanding Er.a_NoMark) := by
  refine T.F_Shop_shuts_not.okX sc_Shop_shuts_not (fun vs H Q E h => ?_) (fun cdv A outer s H vs Q E hr h => ?_)
  · obtain ⟨hd, ca, p, l, o, os, v0, v1, a, b, c, r0, r1, rfl, _⟩ := h; rfl
  · obtain ⟨hd, ca, p, l, o, os, v0, v1, a, b, c, r0, r1, rfl, sh, shp, ez, h0, h1, kE, kM, k⟩ := h
    have tk : Takes (cxOf (L2.CX P w) P w K mg base N_Shop_shuts_not "Shop.shuts_not" (defScope s_Shop_shuts_not) T.a_Shop_shuts_not cdv A outer s H E) (fun cls d _ H' => E cls d H') := takes_of rfl rfl rfl rfl
    obtain ⟨dx, q, past, C, dxo, vs, vm, vc, vk, hp, hl, lp, oc, of, hq, hz, hm, ⟨cm, cs, rfl, hcm, pc⟩, tx⟩ := sh.at
    refine ⟨_, (pss_cons (ps_expr (pe_meth (pv 0) T.c_Shop T.t_Shop_check_standing (ok_Shop_check_standing T Er htop) (hr.mono (by decide)) T.b_Shop_check_standing .nil (passes_call tk fun _ _ _ _ h => h) (pa_cons (pv 1) pa_nil)))
  (pss_cons (ps_expr (pe_meth (pv 0) T.c_Shop T.t_Shop_check_mark (ok_Shop_check_mark T Er htop) (hr.mono (by decide)) T.b_Shop_check_mark .nil (passes_call tk fun _ _ _ _ h => h) (pa_cons (pv 2) pa_nil)))
  (pss_cons (ps_set (i := 3) sc_Shop_shuts_not.nd rfl (Or.inl rfl) (pe_fld (pe_fld (pv 0) rfl) rfl))
  (pss_cons (ps_set (i := 4) sc_Shop_shuts_not.nd rfl (Or.inl rfl) (pe_ix ix_tup (pv 3) (pv 1) (fun _ _ => rfl)))
  (pss_cons (ps_if (pt_cmpR op_notIn_seq (pv 2) (pv 4) rfl) (pss_one (ps_raise rfl tk (pmk_own0 F.excBase_ValueError Er.x_NoMark Er.g_NoMark Er.k_NoMark (raises_own Er.s_NoMark Er.t_NoMark) rfl))) pss_nil)
  (pss_cons (ps_set (i := 5) sc_Shop_shuts_not.nd rfl (Or.inl rfl) (pe_callTy call_tuple_of (by rfl) T.n_tuple (by decide +kernel) (pa_cons (pe_lc (own := [("other", 6)]) rfl sc_Shop_shuts_not.nd (pi_tup (pv 4)) (blkOk_by (own := [("other", 6)]) (N := N_Shop_shuts_not) (sc := defScope s_Shop_shuts_not) (by decide +kernel)) (fun _ _ _ _ _ => (pg_name (i := 6) sc_Shop_shuts_not.nd rfl (Or.inl rfl))) (fun _ _ _ _ _ => pts_one (pt_cmpR op_ne (pv 6) (pv 2) (nomark _))) (fun _ _ _ _ _ => (pv 6))) pa_nil)))
  (pss_one (ps_expr (pe_meth (pv 0) T.c_Shop T.t_Shop_change (ok_Shop_change T Er htop) (hr.mono (by decide)) T.b_Shop_change .nil (passes_call tk fun _ _ _ _ h => h) (pa_cons (pe_fld (pe_fld (pv 0) rfl) rfl) (pa_cons (pe_call (ok_exchanged T) (hr.mono (by decide)) rfl T.g_exchanged T.k_exchanged T.b_exchanged .nil pass0 (pa_cons (pv 3) (pa_cons (pv 1) (pa_cons (pv 5) pa_nil)))) pa_nil))))))))))), ?_⟩
    refine ⟨_, rfl, p, dx, _, rfl, hp, rfl, _, rfl, hd, ca, p, l, o, os, v0, r0, rfl, sh, h0.w .refl, kE, fun e0 => ?_⟩
    refine ⟨_, rfl, p, dx, _, rfl, hp, rfl, _, rfl, hd, ca, p, l, o, os, v1, a, b, c, r1, rfl, sh, ez, h1.w .refl, fun _ => kM e0, fun e1 => ?_⟩
    rw [e0] at h0
    rw [e1] at h1
    obtain ⟨n0, rfl, n1, n2⟩ := h0.int
    obtain ⟨kk, rfl, k1, k2⟩ := h1.int
    obtain ⟨n, rfl⟩ : ∃ n : Nat, n0 = (n : Int) := ⟨n0.toNat, by omega⟩
    have hcl := shp.cl
    obtain ⟨cro, hcro⟩ : ∃ r, o.cl[n]? = some r := ⟨_, List.getElem?_eq_getElem (by omega)⟩
    obtain ⟨cv, hcv, cra, rfl, hcra⟩ := pget pc hcro
    have nin := k n kk cro rfl rfl hcro
    refine ⟨_, rfl, p, T.a_Shop, dx, _, _, rfl, hp, T.c_Shop, T.f_Shop_kept_now, shF_n, q, C, dxo, _, _, rfl, hq, oc.c, oc.n3, offF_c _ _ _ _, stepN ?_⟩
    refine ⟨_, rfl, _, rfl, cm, cs, n, _, rfl, rfl, SqT.of hcm, atI_nat hcv rfl, stepN ?_⟩
    refine ⟨_, rfl, _, rfl, cra, _, rfl, .inr (SqT.of hcra), rfl, flat_int _, _, rfl, ?_⟩
    rw [inV_int]
    exact ifNF nin (kM e0)
theorem ok_Shop_put : FnOk P w K mg base (L2.CX P w) 8 T.a_Shop_put T.d_Shop_put P_Shop_put (sp_put K T.a_Shop Er.a_NoStanding Er.a_NoStep Er.a_BadOffice) := by
  refine T.F_Shop_put.okX sc_Shop_put (fun vs H Q E h => ?_) (fun cdv A outer s H vs Q E hr h => ?_)
  · obtain ⟨hd, ca, p, l, o, os, v0, v1, v2, v3, v4, a, b, c, r0, r1, r2, r3, r4, rfl, _⟩ := h; rfl
  · obtain ⟨hd, ca, p, l, o, os, v0, v1, v2, v3, v4, a, b, c, r0, r1, r2, r3, r4, rfl, sh, los, shp, ez, h0, h1, h2, h3, h4, kN, kT, kN2, k⟩ := h
    have tk : Takes (cxOf (L2.CX P w) P w K mg base N_Shop_put "Shop.put" (defScope s_Shop_put) T.a_Shop_put cdv A outer s H E) (fun cls d _ H' => E cls d H') := takes_of rfl rfl rfl rfl
    obtain ⟨dx, q, past, C, dxo, vs, vm, vc, vk, hp, hl, lp, oc, of, hq, hz, ⟨mm, ms, rfl, hmm, pm⟩, hc, tx⟩ := sh.at
    refine ⟨_, (pss_cons (ps_expr (pe_meth (pv 0) T.c_Shop T.t_Shop_check_standing (ok_Shop_check_standing T Er htop) (hr.mono (by decide)) T.b_Shop_check_standing .nil (passes_call tk fun _ _ _ _ h => h) (pa_cons (pv 1) pa_nil)))
  (pss_cons (ps_if (pt_not (pt_val (pe_call (ok_is_step T) (hr.mono (by decide)) rfl T.g_is_step T.k_is_step T.b_is_step .nil pass0 (pa_cons (pe_fld (pv 0) rfl) (pa_cons (pe_tup (pa_cons (pv 2) (pa_cons (pv 3) (pa_cons (pv 4) pa_nil)))) pa_nil))))) (pss_one (ps_raise rfl tk (pmk_own0 F.excBase_ValueError Er.x_NoStep Er.g_NoStep Er.k_NoStep (raises_own Er.s_NoStep Er.t_NoStep) rfl))) pss_nil)
  (pss_cons (ps_expr (pe_meth (pv 0) T.c_Shop T.t_Shop_check_standing (ok_Shop_check_standing T Er htop) (hr.mono (by decide)) T.b_Shop_check_standing .nil (passes_call tk fun _ _ _ _ h => h) (pa_cons (pv 5) pa_nil)))
  (pss_cons (ps_set (i := 6) sc_Shop_put.nd rfl (Or.inl rfl) (pe_fld (pe_fld (pv 0) rfl) rfl))
  (pss_cons (ps_set (i := 7) sc_Shop_put.nd rfl (Or.inl rfl) (pe_call (ok_with_item T) (hr.mono (by decide)) rfl T.g_with_item T.k_with_item T.b_with_item .nil pass0 (pa_cons (pe_ix ix_tup (pv 6) (pv 1) (fun _ _ => rfl)) (pa_cons (pe_tup (pa_cons (pv 2) (pa_cons (pv 3) (pa_cons (pv 4) (pa_cons (pv 5) pa_nil))))) pa_nil))))
  (pss_one (ps_expr (pe_meth (pv 0) T.c_Shop T.t_Shop_change (ok_Shop_change T Er htop) (hr.mono (by decide)) T.b_Shop_change .nil (passes_call tk fun _ _ _ _ h => h) (pa_cons (pe_call (ok_exchanged T) (hr.mono (by decide)) rfl T.g_exchanged T.k_exchanged T.b_exchanged .nil pass0 (pa_cons (pv 6) (pa_cons (pv 1) (pa_cons (pv 7) pa_nil)))) (pa_cons (pe_fld (pe_fld (pv 0) rfl) rfl) pa_nil)))))))))), ?_⟩
    refine ⟨_, rfl, p, dx, _, rfl, hp, rfl, _, rfl, hd, ca, p, l, o, os, v0, r0, rfl, sh, h0.w .refl, fun e => kN e H .refl, fun e0 => ?_⟩
    refine ⟨_, rfl, p, T.a_Shop, dx, _, _, rfl, hp, T.c_Shop, T.f_Shop_kept_now, shF_n, _, rfl, _, rfl, _, rfl, (by show 3 ≤ sizeLine; decide), fun t ht => ?_⟩
    have kt : Ke H (upd H t (.tup [v1, v2, v3])) := Ke.new ht
    have ht1 : (upd H t (.tup [v1, v2, v3])) t = some (.tup [v1, v2, v3]) := upd_same
    generalize upd H t (.tup [v1, v2, v3]) = H1 at kt ht1 ⊢
    refine nilA ⟨C, q, o, t, v1, v2, v3, a, b, c, r1, r2, r3, rfl, oc, (of.ke (Le.ke Hd.le)).ke kt, ez, ht1, h1.ke kt, h2.ke kt, h3.ke kt, fun H2 k2 => ⟨_, rfl, ?_⟩⟩
    have k02 := kt.trans k2
    cases es : (r1 && r2 && r3) with
    | false => exact iteT (kT e0 es H2 k02)
    | true =>
      refine iteF (stepT ?_)
      have sh2 := sh.ke k02
      refine ⟨_, rfl, p, dx, _, rfl, k02.at hp, rfl, _, rfl, hd, ca, p, l, o, os, v4, r4, rfl, sh2, h4.w k02, fun e => kN2 e0 es e H2 k02, fun e4 => ?_⟩
      rw [Bool.and_eq_true, Bool.and_eq_true] at es
      obtain ⟨⟨e1, e2⟩, e3⟩ := es
      rw [e0] at h0
      rw [e1] at h1
      rw [e2] at h2
      rw [e3] at h3
      rw [e4] at h4
      obtain ⟨n0, rfl, n1, n2⟩ := h0.int
      obtain ⟨x, rfl, x1, x2⟩ := h1.int
      obtain ⟨y, rfl, y1, y2⟩ := h2.int
      obtain ⟨z, rfl, z1, z2⟩ := h3.int
      obtain ⟨g, rfl, g1, g2⟩ := h4.int
      obtain ⟨n, rfl⟩ : ∃ n : Nat, n0 = (n : Int) := ⟨n0.toNat, by omega⟩
      obtain ⟨row, hrow⟩ : ∃ r, o.mv[n]? = some r := ⟨_, List.getElem?_eq_getElem (by omega)⟩
      obtain ⟨rv, hrv, ra, rws, rfl, hra, prw⟩ := pget pm hrow
      obtain ⟨lro, nro⟩ := shp.rw_ row (List.mem_of_getElem? hrow)
      refine ⟨_, rfl, p, T.a_Shop, dx, _, _, rfl, k02.at hp, T.c_Shop, T.f_Shop_kept_now, shF_n, q, C, dxo, _, _, rfl, k02.at hq, oc.c, oc.n2, offF_m _ _ _ _, stepN ?_⟩
      refine ⟨_, rfl, _, rfl, mm, ms, n, _, rfl, rfl, SqT.of (k02.at hmm), atI_nat hrv rfl, _, rfl, _, rfl, _, rfl, _, rfl, (by show 4 ≤ sizeLine; decide), fun t2 ht2 => ?_⟩
      have kt2 : Ke H2 (upd H2 t2 (.tup [.int x, .int y, .int z, .int g])) := Ke.new ht2
      have ht3 : (upd H2 t2 (.tup [.int x, .int y, .int z, .int g])) t2 = some (.tup [.int x, .int y, .int z, .int g]) := upd_same
      generalize upd H2 t2 (.tup [.int x, .int y, .int z, .int g]) = H3 at kt2 ht3 ⊢
      have k03 := k02.trans kt2
      refine nilA ⟨.ref ra, .ref t2, rfl, .inl ⟨row, [x, y, z, g], ⟨ra, rws, rfl, k03.at hra, pimp (fun v x r => TI.stb _ _ v x k03.tx r) prw⟩, ⟨t2, rfl, ht3⟩, by omega, nro, (fun e => nomatch e), fun v' H4 k4 hv' => stepN ?_⟩⟩
      have k04 := k03.trans k4
      refine ⟨_, rfl, p, dx, _, rfl, k04.at hp, rfl, _, rfl, _, rfl, _, rfl, List (List Int), TT TI, .ref mm, v', n, o.mv, sortT (row ++ [[x, y, z, g]]), rfl, TT.stb TI.stb, ⟨mm, ms, rfl, k04.at hmm, pimp (fun v x r => TT.stb TI.stb _ _ v x k04.tx r) pm⟩, hv', by omega, by have := shp.n2; omega, fun v2 H5 k5 hv2 => ?_⟩
      have k05 := k04.trans k5
      refine ⟨_, rfl, p, T.a_Shop, dx, _, _, rfl, k05.at hp, T.c_Shop, T.f_Shop_kept_now, shF_n, q, C, dxo, _, _, rfl, k05.at hq, oc.c, oc.n3, offF_c _ _ _ _, ?_⟩
      refine nilA ⟨hd, ca, p, l, o, os, v2, vc, o.mv.set n (sortT (row ++ [[x, y, z, g]])), o.cl, rfl, sh.ke k05, los, hv2, TT.stb TI.stb _ _ _ _ k05.tx hc, shp.s3, by rw [List.length_set]; have := shp.n2; omega, fun zz => ?_, (k n x y z g row rfl rfl rfl rfl rfl hrow ⟨x1, x2⟩ ⟨y1, y2⟩ ⟨z1, z2⟩ ⟨g1, g2⟩).ke k05⟩
      obtain ⟨⟨m1, m2⟩, cc⟩ := shp.sh zz
      refine ⟨⟨by rw [List.length_set]; exact m1, fun r hr => ?_⟩, by rw [List.length_set]; exact cc⟩
      rw [List.length_set]
      rcases List.mem_or_eq_of_mem_set hr with yy | yy
      · exact m2 r yy
      · rw [yy]
        refine ⟨fun m hm => ?_, by rw [len_sortT, List.length_append, List.length_singleton]; omega⟩
        rcases List.mem_append.mp (mem_sortT.mp hm) with w | w
        · exact (m2 row (List.mem_of_getElem? hrow)).1 m w
        · rw [List.mem_singleton.mp w]; exact ⟨a, b, c, x, y, z, g, ez, rfl, ⟨x1, x2⟩, ⟨y1, y2⟩, ⟨z1, z2⟩, g1, g2⟩
end
end Fd
set_option Elab.async false
set_option linter.all false
set_option maxRecDepth 100000
set_option maxHeartbeats 4000000
namespace Fd
open PySem PySem.Spec PyProof.Rows L2 PySem.W
theorem eqv_tI (a b : List Int) : PyData.eqv (tI a) (tI b) = decide (a = b) := by
  show PyData.eqv (.tuple (a.map .int)) (.tuple (b.map .int)) = _
  rw [PyData.eqv]
  exact ked_eqvAll a b
theorem lay_ints : ∀ a : List Int, PyData.canLayAll0 (a.map .int) = true
  | [] => by simp [PyData.canLayAll0]
  | x :: a => by
    show PyData.canLayAll0 (.int x :: a.map .int) = true
    rw [PyData.canLayAll0, lay_ints a]
    simp [PyData.canLay0]
theorem shaped_tI (a : List Int) : SeqAt.shaped (tI a) = true := by
  unfold SeqAt.shaped
  have h1 : (tI a).canLay0 = true := by
    show PyData.canLay0 (.tuple (a.map .int)) = true
    rw [PyData.canLay0]; exact lay_ints a
  have h2 : (tI a).depth ≤ 64 := by
    show PyData.depth (.tuple (a.map .int)) ≤ 64
    rw [PyData.depth, depth_ints]; decide
  rw [h1, decide_eq_true h2]; rfl
theorem lay_tIs : ∀ a : List (List Int), PyData.canLayAll0 (a.map tI) = true
  | [] => by simp [PyData.canLayAll0]
  | x :: a => by
    show PyData.canLayAll0 (tI x :: a.map tI) = true
    have h1 : (tI x).canLay0 = true := by
      show PyData.canLay0 (.tuple (x.map .int)) = true
      rw [PyData.canLay0]; exact lay_ints x
    rw [PyData.canLayAll0, lay_tIs a, h1]; rfl
theorem depth_tIs : ∀ a : List (List Int), PyData.depthAll (a.map tI) ≤ 1
  | [] => by simp [PyData.depthAll]
  | x :: a => by
    have := depth_tIs a
    rw [List.map_cons, PyData.depthAll]
    have h : (tI x).depth ≤ 1 := by
      show PyData.depth (.tuple (x.map .int)) ≤ 1
      rw [PyData.depth, depth_ints]; decide
    omega
/-- a list of tuples of ints -/
theorem shaped_LI (a : List (List Int)) : SeqAt.shaped (.list (a.map tI)) = true := by
  unfold SeqAt.shaped
  have h1 : (PyData.list (a.map tI)).canLay0 = true := by rw [PyData.canLay0]; exact lay_tIs a
  have h2 : (PyData.list (a.map tI)).depth ≤ 64 := by
    rw [PyData.depth]
    have := depth_tIs a
    omega
  rw [h1, decide_eq_true h2]; rfl
end Fd
set_option Elab.async false
set_option linter.all false
set_option maxRecDepth 100000
set_option maxHeartbeats 4000000
namespace Fd
open PySem PySem.Spec PyProof PyProof.Rows L2 PySem.W
section
variable {X : Cx} {CX : CXT} {k : Nat} {f C : Addr} {fd : FuncData} {ps : List Str} {sp : Sp} {E : L2.St → XK} {m : Str} {pos apos : Pos} {e o : Expr} {es : List Expr} {ta : TE} {t : TA}
/-- o.m(..) where an error may come out, in a body of try -/
def tMethT (C : Addr) (m : Str) (sp : Sp) (E : L2.St → XK) (ta : TE) (t : TA) : TE := fun σ H Q => ta σ H fun x H1 => ∃ a dx fs, x = .ref a ∧ H1 a = some (.ins C dx fs) ∧ fs.lookup m = none ∧ t σ H1 fun vs H2 => sp (.ref a :: vs) H2 Q (E σ)
theorem pe_methT {pl : Sem Bool} (he : PE X o ta) (c : Cls X.K C) (hm : Meth X.K C m f) (F : FnOk X.prog X.w X.K X.mg X.base CX k f fd ps sp) (hr : Room k X.A) (hb : Binds X.K fd ps []) (hx : ∀ σ, PassesAt CX X σ (E σ)) (ha : PA X (e :: es) t)
    (hst : starEach (e :: es) X.env = (false, eval e X.env) :: starEach es X.env := by rfl) (hpl : (backTo pos (starEach es X.env)).any (·.1) = false := by rfl)
    (ht : eval (.Call (.Attribute o m apos) (e :: es) [] pos) X.env = (do
      let ov ← eval o X.env
      standAt apos.atName
      let (f, first) ← holding [ov] (getMethod ov m pl)
      callWith pos f first (backTo pos (starEach (e :: es) X.env)) (backToKw pos (keywordEach [] X.env))) := by rfl) :
    PE X (.Call (.Attribute o m apos) (e :: es) [] pos) (tMethT C m sp E ta t) := by
  refine ⟨fun pins s σ H Q I h => ?_⟩
  refine PySem.W.methodCall_KW (pl := pl) (thn (he.run pins s σ H _ I h) fun u s1 ⟨x, H1, I1, rx, a, dx, fs, ex, ea, l, q⟩ => ?_) ht
  subst ex
  obtain rfl : u = Value.ref a := rx
  refine getmeth_ok I1 ea c hm l ?_
  refine PySem.W.callWith_K (first := [.ref a]) (h₀ := X.base) I.ok.mod.kin hm.kp (thn (ha.run pos pins s1 σ H1 _ I1 q) fun us s2 ⟨vs, H2, I2, r, q2⟩ => ⟨I2.kIn, ?_⟩) hst hpl
  exact run_fnS (us := .ref a :: us) (vs := .ref a :: vs) F hr hb (hx σ) I2 (.cons rfl r) q2
theorem pe_meth0T {pl : Sem Bool} (he : PE X o ta) (c : Cls X.K C) (hm : Meth X.K C m f) (F : FnOk X.prog X.w X.K X.mg X.base CX k f fd ps sp) (hr : Room k X.A) (hb : Binds X.K fd ps []) (hx : ∀ σ, PassesAt CX X σ (E σ))
    (ht : eval (.Call (.Attribute o m apos) [] [] pos) X.env = (do
      let ov ← eval o X.env
      standAt apos.atName
      let (f, first) ← holding [ov] (getMethod ov m pl)
      callWith pos f first (backTo pos (starEach [] X.env)) (backToKw pos (keywordEach [] X.env))) := by rfl) :
    PE X (.Call (.Attribute o m apos) [] [] pos) (tMethT C m sp E ta tNil) := by
  refine ⟨fun pins s σ H Q I h => ?_⟩
  refine PySem.W.methodCall_KW (pl := pl) (thn (he.run pins s σ H _ I h) fun u s1 ⟨x, H1, I1, rx, a, dx, fs, ex, ea, l, q⟩ => ?_) ht
  subst ex
  obtain rfl : u = Value.ref a := rx
  refine getmeth_ok I1 ea c hm l ?_
  exact PySem.W.callWith_K0 (first := [.ref a]) I1.kIn hm.kp (run_fnS (us := [.ref a]) (vs := [.ref a]) F hr hb (hx σ) I1 (.cons rfl .nil) q)
/-- l.count(x), l a list of flags -/
def rCntB (K : Frag) : V → List V → Hp → VK → Prop := fun x xs H Q => ∃ (p : Addr) (bs : List Bool) (k : Bool), x = .ref p ∧ xs = [.bl k] ∧ SqL K H p (bs.map V.bl) ∧ Q (.int (bs.count k : Nat)) H
theorem dp_bools (K : Frag) (H : Hp) : ∀ bs : List Bool, DpAll K H (bs.map V.bl) (bs.map PyData.bool)
  | [] => .nil
  | b :: bs => .cons (.bl b) (dp_bools K H bs)
theorem plain_bools : ∀ bs : List Bool, PyData.plainAll (bs.map PyData.bool) = true
  | [] => by simp [PyData.plainAll]
  | b :: bs => by
    show PyData.plainAll (.bool b :: bs.map PyData.bool) = true
    rw [PyData.plainAll, plain_bools bs]
    simp [PyData.plain]
theorem depth_bools : ∀ bs : List Bool, PyData.depthAll (bs.map PyData.bool) = 0
  | [] => by simp [PyData.depthAll]
  | b :: bs => by
    show PyData.depthAll (.bool b :: bs.map PyData.bool) = 0
    rw [PyData.depthAll, depth_bools bs]
    simp [PyData.depth]
theorem countP_bools (k : Bool) : ∀ bs : List Bool, (bs.map PyData.bool).countP (fun y => PyData.eqv y (.bool k)) = bs.count k
  | [] => rfl
  | b :: bs => by
    rw [List.map_cons, List.countP_cons, countP_bools k bs, List.count_cons]
    have e : PyData.eqv (.bool b) (.bool k) = (b == k) := by cases b <;> cases k <;> simp [PyData.eqv]
    rw [e]
theorem mt_countB (hu : X.A.units + 65 < cLine) : MtR X "list.count" (rCntB X.K) := by
  intro pins s σ H x xs v us Q I rx rxs h
  obtain ⟨p, bs, k, rfl, rfl, hs, q⟩ := h
  cases rx
  obtain ⟨u, rfl, ru⟩ := rxs.one
  obtain ⟨its, rv, hl, hlen⟩ := I.list hs
  obtain ⟨as, rs⟩ := Dp.readsAll I (bs.map PyData.bool) _ its (dp_bools X.K H bs) rv
  obtain ⟨as2, r2⟩ := Dp.reads I (.bool k) (.bl k) u (.bl k) ru
  refine PySem.SeqAt.count_list_data hl.isList (by simpa using rs) r2 (plain_bools bs) (by simp [PyData.plain]) (by rw [depth_bools]; omega) ?_
  rw [countP_bools]
  exact ⟨.int (bs.count k : Nat), H, I.tok _, ⟨s.toks, rfl⟩, q⟩
theorem mt_countBK (K : Frag) (h : X.K = K) (hu : X.A.units + 65 < cLine) : MtR X "list.count" (rCntB K) := by rw [← h]; exact mt_countB hu
end
end Fd
set_option Elab.async false
set_option linter.all false
set_option maxRecDepth 100000
set_option maxHeartbeats 4000000
namespace Fd
open PySem PySem.Spec PyProof.Rows L2 PySem.W
/-- the same part, whoever asks -/
theorem BadP.uniq {sz : List Int} {mv : List (List (List Int))} {cl : List (List Int)} {z z' : Str} (h : BadP sz mv cl z) (h' : BadP sz mv cl z') : z = z' := by
  rcases h with ⟨a, rfl⟩ | ⟨a, b, rfl⟩ | ⟨a, b, c, rfl⟩ <;> rcases h' with ⟨a', rfl⟩ | ⟨a', b', rfl⟩ | ⟨a', b', c', rfl⟩
  · rfl
  · exact absurd a' a
  · exact absurd a' a
  · exact absurd a a'
  · rfl
  · exact absurd b' b
  · exact absurd a a'
  · exact absurd b b'
  · rfl
theorem chg_bad {K : PySem.W.Frag} {CS CB hd ca p l : Addr} {H : Hp} {o : Ofc} {os : List Ofc} {mv : List (List (List Int))} {cl : List (List Int)} {Q : VK} {E : XK} {z : Str} (b : BadP o.sz mv cl z) (k : ∀ d H', Ke H H' → H' d = some (.xd [("part", .str z)]) → E (.ref CB) (some d) H') : Chg K CS CB hd ca p l H o os mv cl Q E :=
  ⟨fun z' b' d H' k1 h1 => by rw [b'.uniq b] at h1; exact k d H' k1 h1, fun g => (good_bad g b).elim⟩
/-- deeds that end in BadOffice -/
def BadDeed (o : Ofc) (kind : Int) (vs : List V) (zz : Str) : Prop := (kind = 0 ∧ ∃ (n : Nat) (x y z g : Int) (row : List (List Int)) (a b c : Int), vs = [.int n, .int x, .int y, .int z, .int g] ∧ o.mv[n]? = some row ∧ o.sz = [a, b, c] ∧ (0 ≤ x ∧ x ≤ a - 1) ∧ (0 ≤ y ∧ y ≤ b - 1) ∧ (0 ≤ z ∧ z ≤ c - 1) ∧ (0 ≤ g ∧ g ≤ (o.mv.length : Int) - 1) ∧ BadP o.sz (o.mv.set n (sortT (row ++ [[x, y, z, g]]))) o.cl zz) ∨
  (kind = 2 ∧ ∃ (n : Nat) (k : Int) (row : List Int) (a b c : Int), vs = [.int n, .int k] ∧ o.cl[n]? = some row ∧ n < o.mv.length ∧ o.sz = [a, b, c] ∧ (0 ≤ k ∧ k ≤ c - 1) ∧ BadP o.sz o.mv (o.cl.set n (sortI (row ++ [k]))) zz) ∨
  (kind = 4 ∧ BadP o.sz (o.mv ++ [[]]) (o.cl ++ [[]]) zz)
def sp_run (K : PySem.W.Frag) (CS CB : Addr) : Sp := fun xs H Q E => ∃ hd ca p l o os kind lt vs zz, xs = [.int kind, .ref p, .ref lt] ∧ SH K CS hd ca p l H o os ∧ os.length < 1000 ∧ Shp o ∧ H lt = some (.lst vs) ∧ BadDeed o kind vs zz ∧ ∀ d H', Ke H H' → H' d = some (.xd [("part", .str zz)]) → E (.ref CB) (some d) H'
def sp_part (K : PySem.W.Frag) (CS : Addr) : Sp := fun xs H Q E => ∃ hd ca p l o os kind lt vs zz, xs = [.int kind, .ref p, .ref lt] ∧ SH K CS hd ca p l H o os ∧ os.length < 1000 ∧ Shp o ∧ H lt = some (.lst vs) ∧ BadDeed o kind vs zz ∧ ∀ H', Ke H H' → Q (.str zz) H'
theorem isV_int {K : PySem.W.Frag} {H : Hp} {n a b : Int} (h : a ≤ n ∧ n ≤ b) : IsV K H (.int n) a b true := .inl ⟨n, rfl, by rw [decide_eq_true h]⟩
section
variable {P : Program} {w : World} {K : PySem.W.Frag} {mg : Str → Option Value} {base : Heap} (T : Txt K mg) (Er : Err P K mg) (htop : (P.main.scope.names.lookup ("super" : Str)).isSome = false)
include T Er htop
theorem ok_l_run : FnOk P w K mg base (L2.CX P w) 9 T.a_l_run T.d_l_run P_l_run (sp_run K T.a_Shop Er.a_BadOffice) := by
  refine T.F_l_run.okX sc_l_run (fun vs H Q E h => ?_) (fun cdv A outer s H vs Q E hr h => ?_)
  · obtain ⟨hd, ca, p, l, o, os, kind, lt, vs, zz, rfl, _⟩ := h; rfl
  · obtain ⟨hd, ca, p, l, o, os, kind, lt, vs, zz, rfl, sh, los, shp, hlt, bad, kE⟩ := h
    have tk : Takes (cxOf (L2.CX P w) P w K mg base N_l_run "_law_run" (defScope s_l_run) T.a_l_run cdv A outer s H E) (fun cls d _ H' => E cls d H') := takes_of rfl rfl rfl rfl
    obtain ⟨dx, q, past, C, dxo, vz, vm, vc, vk, hp, _⟩ := sh.at
    refine ⟨_, (pss_one (ps_if (pt_cmpR op_eq (pv 0) pe_int (nomark _)) (pss_one (ps_expr (pe_meth (pv 1) T.c_Shop T.t_Shop_put (ok_Shop_put T Er htop) (hr.mono (by decide)) T.b_Shop_put .nil (passes_call tk fun _ _ _ _ h => h) (pa_cons (pe_ix ix_list (pv 2) pe_int (fun _ _ => rfl)) (pa_cons (pe_ix ix_list (pv 2) pe_int (fun _ _ => rfl)) (pa_cons (pe_ix ix_list (pv 2) pe_int (fun _ _ => rfl)) (pa_cons (pe_ix ix_list (pv 2) pe_int (fun _ _ => rfl)) (pa_cons (pe_ix ix_list (pv 2) pe_int (fun _ _ => rfl)) pa_nil)))))))) (pss_one (ps_if (pt_cmpR op_eq (pv 0) pe_int (nomark _)) (pss_one (ps_expr (pe_meth (pv 1) T.c_Shop T.t_Shop_shuts (ok_Shop_shuts T Er htop) (hr.mono (by decide)) T.b_Shop_shuts .nil (passes_call tk fun _ _ _ _ h => h) (pa_cons (pe_ix ix_list (pv 2) pe_int (fun _ _ => rfl)) (pa_cons (pe_ix ix_list (pv 2) pe_int (fun _ _ => rfl)) pa_nil))))) (pss_one (ps_expr (pe_meth0 (pv 1) T.c_Shop T.t_Shop_add (ok_Shop_add T Er htop) (hr.mono (by decide)) T.b_Shop_add .nil (passes_call tk fun _ _ _ _ h => h)))))))), ?_⟩
    refine ⟨_, rfl, rfl, _, rfl, ?_⟩
    rcases bad with ⟨rfl, n, x, y, z, g, row, a, b, c, rfl, hrow, ez, hx, hy, hz, hg, bp⟩ | ⟨rfl, n, kk, row, a, b, c, rfl, hrow, hn, ez, hk, bp⟩ | ⟨rfl, bp⟩
    · have hnl := (List.getElem?_eq_some_iff.mp hrow).1
      refine iteT' (decide_eq_true rfl) ?_
      refine ⟨_, rfl, p, dx, _, rfl, hp, rfl, _, rfl, lt, _, 0, _, rfl, rfl, SqL.of hlt, rfl, _, rfl, lt, _, 1, _, rfl, rfl, SqL.of hlt, rfl, _, rfl, lt, _, 2, _, rfl, rfl, SqL.of hlt, rfl, _, rfl, lt, _, 3, _, rfl, rfl, SqL.of hlt, rfl, _, rfl, lt, _, 4, _, rfl, rfl, SqL.of hlt, rfl, ?_⟩
      refine nilA ⟨hd, ca, p, l, o, os, _, _, _, _, _, a, b, c, true, true, true, true, true, rfl, sh, los, shp, ez, isV_int ⟨by omega, by omega⟩, isV_int hx, isV_int hy, isV_int hz, isV_int hg, (fun e => by cases e), (fun _ e => by cases e), (fun _ _ e => by cases e), fun n' x' y' z' g' row' e0 e1 e2 e3 e4 hr' _ _ _ _ => ?_⟩
      have en : n' = n := by injection e0 with e0; omega
      have ex : x' = x := by injection e1 with e1; exact e1.symm
      have ey : y' = y := by injection e2 with e2; exact e2.symm
      have ez' : z' = z := by injection e3 with e3; exact e3.symm
      have eg : g' = g := by injection e4 with e4; exact e4.symm
      subst en ex ey ez' eg
      rw [hrow] at hr'
      obtain rfl := Option.some.inj hr'
      exact chg_bad bp kE
    · refine iteF' (fun z => by have := of_decide_eq_true z; cases this) ⟨_, rfl, rfl, _, rfl, iteT' (decide_eq_true rfl) ?_⟩
      refine ⟨_, rfl, p, dx, _, rfl, hp, rfl, _, rfl, lt, _, 0, _, rfl, rfl, SqL.of hlt, rfl, _, rfl, lt, _, 1, _, rfl, rfl, SqL.of hlt, rfl, ?_⟩
      refine nilA ⟨hd, ca, p, l, o, os, _, _, a, b, c, true, true, rfl, sh, los, shp, ez, isV_int ⟨by omega, by omega⟩, isV_int hk, (fun e => by cases e), (fun _ e => by cases e), fun n' k' row' e0 e1 hr' _ => ?_⟩
      have en : n' = n := by injection e0 with e0; omega
      have ek : k' = kk := by injection e1 with e1; exact e1.symm
      subst en ek
      rw [hrow] at hr'
      obtain rfl := Option.some.inj hr'
      exact chg_bad bp kE
    · refine iteF' (fun z => by have := of_decide_eq_true z; cases this) ⟨_, rfl, rfl, _, rfl, iteF' (fun z => by have := of_decide_eq_true z; cases this) ?_⟩
      refine ⟨_, rfl, p, dx, _, rfl, hp, rfl, ?_⟩
      exact nilA ⟨hd, ca, p, l, o, os, rfl, sh, los, shp, chg_bad bp kE⟩
end
end Fd
set_option Elab.async false
set_option linter.all false
set_option maxRecDepth 100000
set_option maxHeartbeats 4000000
namespace Fd
open PySem PySem.Spec PyProof.Rows L2 PySem.W
def wordsA : List Str := ["standing", "step", "move", "mark", "nothing", "office"]
/-- what a deed of the shop comes to, as a word; and, if it is let, what the shop is behind it -/
inductive AskR (K : PySem.W.Frag) (H : Hp) (o : Ofc) (os : List Ofc) : Int → List V → Str → Option (Ofc × List Ofc) → Prop where
  | put0 {v0 v1 v2 v3 v4 : V} : IsV K H v0 0 ((o.mv.length : Int) - 1) false → (∃ a b c r1 r2 r3 r4, o.sz = [a, b, c] ∧ IsV K H v1 0 (a - 1) r1 ∧ IsV K H v2 0 (b - 1) r2 ∧ IsV K H v3 0 (c - 1) r3 ∧ IsV K H v4 0 ((o.mv.length : Int) - 1) r4) → AskR K H o os 0 [v0, v1, v2, v3, v4] "standing" none
  | put1 {v0 v1 v2 v3 v4 : V} {a b c : Int} {r1 r2 r3 r4 : Bool} : IsV K H v0 0 ((o.mv.length : Int) - 1) true → o.sz = [a, b, c] → IsV K H v1 0 (a - 1) r1 → IsV K H v2 0 (b - 1) r2 → IsV K H v3 0 (c - 1) r3 → IsV K H v4 0 ((o.mv.length : Int) - 1) r4 → (r1 && r2 && r3) = false → AskR K H o os 0 [v0, v1, v2, v3, v4] "step" none
  | put2 {v0 v1 v2 v3 v4 : V} {a b c : Int} : IsV K H v0 0 ((o.mv.length : Int) - 1) true → o.sz = [a, b, c] → IsV K H v1 0 (a - 1) true → IsV K H v2 0 (b - 1) true → IsV K H v3 0 (c - 1) true → IsV K H v4 0 ((o.mv.length : Int) - 1) false → AskR K H o os 0 [v0, v1, v2, v3, v4] "standing" none
  | put3 {n : Nat} {x y z g a b c : Int} {row : List (List Int)} : o.mv[n]? = some row → o.sz = [a, b, c] → (0 ≤ x ∧ x ≤ a - 1) → (0 ≤ y ∧ y ≤ b - 1) → (0 ≤ z ∧ z ≤ c - 1) → (0 ≤ g ∧ g ≤ (o.mv.length : Int) - 1) → Good o.sz (o.mv.set n (sortT (row ++ [[x, y, z, g]]))) o.cl → AskR K H o os 0 [.int n, .int x, .int y, .int z, .int g] "let" (some (⟨o.sz, o.mv.set n (sortT (row ++ [[x, y, z, g]])), o.cl⟩, os ++ [o]))
  | str0 {v0 v1 : V} : IsV K H v0 0 ((o.mv.length : Int) - 1) false → AskR K H o os 1 [v0, v1] "standing" none
  | str1 {n : Nat} {v1 : V} {row : List (List Int)} : o.mv[n]? = some row → IsV K H v1 0 ((row.length : Int) - 1) false → AskR K H o os 1 [.int n, v1] "move" none
  | shu0 {v0 v1 : V} {a b c : Int} {r : Bool} : IsV K H v0 0 ((o.mv.length : Int) - 1) false → o.sz = [a, b, c] → IsV K H v1 0 (c - 1) r → AskR K H o os 2 [v0, v1] "standing" none
  | shu1 {v0 v1 : V} {a b c : Int} : IsV K H v0 0 ((o.mv.length : Int) - 1) true → o.sz = [a, b, c] → IsV K H v1 0 (c - 1) false → AskR K H o os 2 [v0, v1] "mark" none
  | shn0 {v0 v1 : V} {a b c : Int} {r : Bool} : IsV K H v0 0 ((o.mv.length : Int) - 1) false → o.sz = [a, b, c] → IsV K H v1 0 (c - 1) r → AskR K H o os 3 [v0, v1] "standing" none
  | shn1 {v0 v1 : V} {a b c : Int} {r : Bool} : IsV K H v0 0 ((o.mv.length : Int) - 1) true → o.sz = [a, b, c] → IsV K H v1 0 (c - 1) r → (∀ (n : Nat) k row, v0 = .int n → v1 = .int k → o.cl[n]? = some row → k ∉ row) → AskR K H o os 3 [v0, v1] "mark" none
  | add {vs : List V} : Good o.sz (o.mv ++ [[]]) (o.cl ++ [[]]) → AskR K H o os 4 vs "let" (some (⟨o.sz, o.mv ++ [[]], o.cl ++ [[]]⟩, os ++ [o]))
  | back0 {vs : List V} : os = [] → AskR K H o os 5 vs "nothing" none
  | back1 {vs : List V} {os' : List Ofc} {o' : Ofc} : os = os' ++ [o'] → AskR K H o os 5 vs "let" (some (o', os'))
def sp_asked (K : PySem.W.Frag) (CS : Addr) : Sp := fun xs H Q _ => ∃ hd ca p l o os kind lt vs told aft, xs = [.int kind, .ref p, .ref lt] ∧ SH K CS hd ca p l H o os ∧ os.length < 1000 ∧ Shp o ∧ H lt = some (.lst vs) ∧ AskR K H o os kind vs told aft ∧
  (aft = none → ∀ H', Ke H H' → Q (.str told) H') ∧ (∀ o' os', aft = some (o', os') → ∀ H', Ks (S3 hd p l) H H' → SH K CS hd ca p l H' o' os' → (kind = 4 → Mvd CS p l H H') → (kind = 5 → ∀ dx v past w, H p = some (.ins CS dx (shF v (.ref l))) → H l = some (.lst (past ++ [w])) → H' p = some (.ins CS dx (shF w (.ref l)))) → Q (.str told) H')
section
variable {P : Program} {w : World} {K : PySem.W.Frag} {mg : Str → Option Value} {base : Heap} (T : Txt K mg) (Er : Err P K mg) (Eq : ErrQ Er) (htop : (P.main.scope.names.lookup ("super" : Str)).isSome = false)
include T Er Eq htop
theorem ok_l_part : FnOk P w K mg base CX0 10 T.a_l_part T.d_l_part P_l_part (sp_part K T.a_Shop) := by
  refine T.F_l_part.ok sc_l_part (fun vs H Q E h => ?_) (fun cdv A outer s H vs Q E hr h => ?_)
  · obtain ⟨hd, ca, p, l, o, os, kind, lt, vs, zz, rfl, _⟩ := h; rfl
  · obtain ⟨hd, ca, p, l, o, os, kind, lt, vs, zz, rfl, sh, los, shp, hlt, bad, k⟩ := h
    refine ⟨_, pss_cons (ps_set (i := 3) sc_l_part.nd rfl (Or.inl rfl) pe_non)
      (pss_cons (ps_try_as (i := 4) rfl rfl sc_l_part.nd rfl rfl ⟨rfl, by decide, .inl Er.g_BadOffice⟩ takes0
        (fun W pn xe tk po => pss_one (ps_expr (pe_callS (ok_l_run T Er htop) (hr.mono (by decide)) rfl T.g_l_run T.k_l_run T.b_l_run (fun σ => passAt tk σ) (pa_cons (pv 0) (pa_cons (pv 1) (pa_cons (pv 2) pa_nil))))))
        (fun a oe cls d pn hz hf => pss_one (ps_set (i := 3) sc_l_part.nd rfl (Or.inl rfl) (pe_xf Eq.xf Er.no_BadOffice hz hf (pv 4)))))
      (pss_one (ps_ret (pv 3)))), ?_⟩
    refine ⟨_, rfl, _, rfl, _, rfl, hd, ca, p, l, o, os, kind, lt, vs, zz, rfl, sh, los, shp, hlt, bad, fun d H1 k1 hd1 => ⟨true, Eq.m_BadOffice, fun _ a ha => ?_, fun q => nomatch q⟩⟩
    refine ⟨_, rfl, rfl, rfl, d, _, .str zz, rfl, hd1, rfl, ?_⟩
    exact ⟨_, rfl, k H1 k1⟩
end
end Fd
set_option Elab.async false
set_option linter.all false
set_option maxRecDepth 100000
set_option maxHeartbeats 4000000
namespace Fd
open PySem PySem.Spec PyProof.Rows L2 PySem.W
/-- the suite behind except: what it tells of the error -/
def hnd (K : Frag) (c0 c1 c2 c3 c4 c5 : Addr) (a : Addr) (cls : Value) (d : Option Addr) : TS :=
  tSeq (tAsg (tC (.str "other")) (gName 3)) (tSeq (tAsg (tLst (tCons (tCB (rIsY K cls a d) (tCons (tVar 4) (tCons (tC (.ref c0)) tNil))) (tCons (tCB (rIsY K cls a d) (tCons (tVar 4) (tCons (tC (.ref c1)) tNil))) (tCons (tCB (rIsY K cls a d) (tCons (tVar 4) (tCons (tC (.ref c2)) tNil))) (tCons (tCB (rIsY K cls a d) (tCons (tVar 4) (tCons (tC (.ref c3)) tNil))) tNil))))) (gName 5))
    (tSeq (tAsg (tOp rCat (tVar 5) (tLst (tCons (tCB (rIsY K cls a d) (tCons (tVar 4) (tCons (tC (.ref c4)) tNil))) (tCons (tCB (rIsY K cls a d) (tCons (tVar 4) (tCons (tC (.ref c5)) tNil))) tNil)))) (gName 5))
      (tIfS (tTest (tOp rEq (tBM K "list" (rCntB K) (tVar 5) (tCons (tC (.bl true)) tNil)) (tC (.int 1))))
        (tAsg (tOp (rIxL K) (tLst (tCons (tC (.str "standing")) (tCons (tC (.str "step")) (tCons (tC (.str "move")) (tCons (tC (.str "mark")) (tCons (tC (.str "nothing")) (tCons (tC (.str "office")) tNil))))))) (tBM K "list" (rIndexD K) (tVar 5) (tCons (tC (.bl true)) tNil))) (gName 3)) tNext)))
theorem shaped_bools (bs : List Bool) : SeqAt.shaped (.list (bs.map PyData.bool)) = true := by
  have h1 : PyData.canLayAll0 (bs.map PyData.bool) = true := by
    induction bs with
    | nil => simp [PyData.canLayAll0]
    | cons b bs ih =>
      show PyData.canLayAll0 (.bool b :: bs.map PyData.bool) = true
      rw [PyData.canLayAll0, ih]
      simp [PyData.canLay0]
  have c : PyData.canLay0 (.list (bs.map PyData.bool)) = true := by rw [PyData.canLay0]; exact h1
  have d : PyData.depth (.list (bs.map PyData.bool)) ≤ 64 := by rw [PyData.depth, depth_bools]; decide
  unfold SeqAt.shaped
  rw [c, decide_eq_true d]; rfl
theorem hnd_ok {K : Frag} {c0 c1 c2 c3 c4 c5 a D : Addr} {s0 s1 s2 s3 s5 : Option V} {H : Hp} {Dn : Ends} (i : Fin 6) (C : ExcC K D) (he : ∀ j : Fin 6, kitOne K (.ref D) (.ref ([c0, c1, c2, c3, c4, c5].getD j 0)) = some (decide (i = j)))
    (k : ∀ s5' H', Ke H H' → Dn.nx [s0, s1, s2, some (.str (wordsA.getD i "")), some (.ref a), s5'] H') : hnd K c0 c1 c2 c3 c4 c5 a (.ref D) none Dn [s0, s1, s2, s3, some (.ref a), s5] H := by
  have isr : ∀ (c : Addr) (u : Value), RelV (.ref c) u → u = .ref c := fun c u h => h
  refine ⟨_, rfl, D, rfl, C, _, _, _, rfl, isr _, he 0, (fun _ z => nomatch z), ?_⟩
  refine ⟨_, rfl, D, rfl, C, _, _, _, rfl, isr _, he 1, (fun _ z => nomatch z), ?_⟩
  refine ⟨_, rfl, D, rfl, C, _, _, _, rfl, isr _, he 2, (fun _ z => nomatch z), ?_⟩
  refine ⟨_, rfl, D, rfl, C, _, _, _, rfl, isr _, he 3, (fun _ z => nomatch z), (by show 4 ≤ sizeLine; decide), fun l hl => stepN ?_⟩
  have k1 : Ke H (upd H l (.lst [.bl (decide (i = 0)), .bl (decide (i = 1)), .bl (decide (i = 2)), .bl (decide (i = 3))])) := Ke.new hl
  have hl1 : (upd H l (.lst [.bl (decide (i = 0)), .bl (decide (i = 1)), .bl (decide (i = 2)), .bl (decide (i = 3))])) l = some (.lst [.bl (decide (i = 0)), .bl (decide (i = 1)), .bl (decide (i = 2)), .bl (decide (i = 3))]) := upd_same
  refine ⟨_, rfl, _, rfl, D, rfl, C, _, _, _, rfl, isr _, he 4, (fun _ z => nomatch z), ?_⟩
  refine ⟨_, rfl, D, rfl, C, _, _, _, rfl, isr _, he 5, (fun _ z => nomatch z), (by show 2 ≤ sizeLine; decide), fun l2 hl2 => ?_⟩
  refine ⟨l, l2, _, _, rfl, rfl, (Ke.new hl2).at hl1, upd_same, (by show 4 + 2 ≤ sizeLine; decide), fun q hq => stepN ?_⟩
  have kq := (k1.trans (Ke.new (o := .lst [.bl (decide (i = 4)), .bl (decide (i = 5))]) hl2)).trans (Ke.new (o := .lst ([decide (i = 0), decide (i = 1), decide (i = 2), decide (i = 3), decide (i = 4), decide (i = 5)].map V.bl)) hq)
  have hc : ∀ i : Fin 6, [decide (i = 0), decide (i = 1), decide (i = 2), decide (i = 3), decide (i = 4), decide (i = 5)].count true = 1 := by decide
  have ha : ∀ i : Fin 6, [decide (i = 0), decide (i = 1), decide (i = 2), decide (i = 3), decide (i = 4), decide (i = 5)][i.val]? = some true := by decide
  have hb : ∀ i m : Fin 6, m.val < i.val → [decide (i = 0), decide (i = 1), decide (i = 2), decide (i = 3), decide (i = 4), decide (i = 5)][m.val]? = some false := by decide
  have hw : ∀ i : Fin 6, wordsA[i.val]? = some (wordsA.getD i.val "") := by decide
  have hq1 : (upd (upd (upd H l (.lst [.bl (decide (i = 0)), .bl (decide (i = 1)), .bl (decide (i = 2)), .bl (decide (i = 3))])) l2 (.lst [.bl (decide (i = 4)), .bl (decide (i = 5))])) q (.lst ([decide (i = 0), decide (i = 1), decide (i = 2), decide (i = 3), decide (i = 4), decide (i = 5)].map V.bl))) q = some (.lst ([decide (i = 0), decide (i = 1), decide (i = 2), decide (i = 3), decide (i = 4), decide (i = 5)].map V.bl)) := upd_same
  refine ⟨_, rfl, .inl ⟨rfl, _, SqL.of hq1⟩, q, [decide (i = 0), decide (i = 1), decide (i = 2), decide (i = 3), decide (i = 4), decide (i = 5)], true, rfl, rfl, SqL.of hq1, rfl, _, rfl, ?_⟩
  rw [hc i]
  refine iteT' rfl ⟨(by show 6 ≤ sizeLine; decide), fun wl hwl => ?_⟩
  have kw := Ke.new (o := .lst (wordsA.map V.str)) hwl
  have hq2 := kw.at hq1
  refine ⟨_, rfl, .inl ⟨rfl, _, SqL.of hq2⟩, q, .bl true, .bool true, [decide (i = 0), decide (i = 1), decide (i = 2), decide (i = 3), decide (i = 4), decide (i = 5)].map PyData.bool, i.val, .bool true, rfl, rfl, .lst (SqL.of hq2) (dp_bools K _ _), .bl true, shaped_bools _, by simp [SeqAt.shaped, PyData.canLay0, PyData.depth], by rw [List.getElem?_map, ha i]; rfl, by simp [PyData.eqv], fun m z' hm hz => ?_, wl, _, _, _, rfl, rfl, SqL.of upd_same, atI_nat (x := .str (wordsA.getD i.val "")) (i := i.val) ?_ rfl, stepN ?_⟩
  · rw [List.getElem?_map] at hz
    have hm6 : m < 6 := by omega
    rw [hb i ⟨m, hm6⟩ hm] at hz
    have e : PyData.bool false = z' := Option.some.inj hz
    rw [← e]
    simp [PyData.eqv]
  · show (wordsA.map V.str)[i.val]? = _
    rw [List.getElem?_map, hw i]; rfl
  · exact k _ _ (kq.trans kw)
theorem ni_int {K : Frag} {H : Hp} {n : Int} (h : NI K H (.int n)) : False := by
  obtain ⟨t, b1, b2, ty, e1, e2, e⟩ := h H .refl
  cases ty with
  | base ty =>
    cases ty
    have z1 : kitOne K (.type "int") (.type "int") = some true := by rfl
    have z2 : kitOne K (.type "int") (.type "bool") = some false := by rfl
    rw [z1] at e1
    rw [z2] at e2
    cases e1
    cases e2
    cases e
theorem isV_no {K : Frag} {H : Hp} {n a b : Int} (h : IsV K H (.int n) a b false) (c : a ≤ n ∧ n ≤ b) : False := by
  rcases h with ⟨m, e, h⟩ | ⟨h, _⟩
  · cases e
    exact of_decide_eq_false h.symm c
  · exact ni_int h
section
variable {P : Program} {w : World} {K : PySem.W.Frag} {mg : Str → Option Value} {base : Heap} (T : Txt K mg) (Er : Err P K mg) (Eq : ErrQ Er) (htop : (P.main.scope.names.lookup ("super" : Str)).isSome = false)
include T Er Eq htop
theorem ok_l_asked : FnOk P w K mg base CX0 10 T.a_l_asked T.d_l_asked P_l_asked (sp_asked K T.a_Shop) := by
  refine T.F_l_asked.ok sc_l_asked (fun vs H Q E h => ?_) (fun cdv A outer s H vs Q E hr h => ?_)
  · obtain ⟨hd, ca, p, l, o, os, kind, lt, vs, told, aft, rfl, _⟩ := h; rfl
  · obtain ⟨hd, ca, p, l, o, os, kind, lt, vs, told, aft, rfl, sh, los, shp, hlt, ask, k0, k1⟩ := h
    obtain ⟨dx, q, past, C, dxo, vz, vm, vc, vk, hp, _⟩ := sh.at
    have h65 := room65 hr
    refine ⟨_, pss_cons (ps_set (i := 3) sc_l_asked.nd rfl (Or.inl rfl) pe_str)
      (pss_cons (ps_try_as (i := 4) rfl rfl sc_l_asked.nd rfl rfl ⟨rfl, by decide, .inl Er.g_FalseError⟩ takes0
        (fun W pn xe tk po => pss_one (ps_if (pt_cmpR op_eq (pv 0) pe_int (nomark _))
          (pss_one (ps_expr (pe_methT (pv 1) T.c_Shop T.t_Shop_put (ok_Shop_put T Er htop) (hr.mono (by decide)) T.b_Shop_put (fun σ => passAt tk σ) (pa_cons (pe_ix (ix_listK K rfl) (pv 2) pe_int (fun _ _ => rfl)) (pa_cons (pe_ix (ix_listK K rfl) (pv 2) pe_int (fun _ _ => rfl)) (pa_cons (pe_ix (ix_listK K rfl) (pv 2) pe_int (fun _ _ => rfl)) (pa_cons (pe_ix (ix_listK K rfl) (pv 2) pe_int (fun _ _ => rfl)) (pa_cons (pe_ix (ix_listK K rfl) (pv 2) pe_int (fun _ _ => rfl)) pa_nil))))))))
          (pss_one (ps_if (pt_cmpR op_eq (pv 0) pe_int (nomark _))
            (pss_one (ps_expr (pe_methT (pv 1) T.c_Shop T.t_Shop_strike (ok_Shop_strike T Er htop) (hr.mono (by decide)) T.b_Shop_strike (fun σ => passAt tk σ) (pa_cons (pe_ix (ix_listK K rfl) (pv 2) pe_int (fun _ _ => rfl)) (pa_cons (pe_ix (ix_listK K rfl) (pv 2) pe_int (fun _ _ => rfl)) pa_nil)))))
            (pss_one (ps_if (pt_cmpR op_eq (pv 0) pe_int (nomark _))
              (pss_one (ps_expr (pe_methT (pv 1) T.c_Shop T.t_Shop_shuts (ok_Shop_shuts T Er htop) (hr.mono (by decide)) T.b_Shop_shuts (fun σ => passAt tk σ) (pa_cons (pe_ix (ix_listK K rfl) (pv 2) pe_int (fun _ _ => rfl)) (pa_cons (pe_ix (ix_listK K rfl) (pv 2) pe_int (fun _ _ => rfl)) pa_nil)))))
              (pss_one (ps_if (pt_cmpR op_eq (pv 0) pe_int (nomark _))
                (pss_one (ps_expr (pe_methT (pv 1) T.c_Shop T.t_Shop_shuts_not (ok_Shop_shuts_not T Er htop) (hr.mono (by decide)) T.b_Shop_shuts_not (fun σ => passAt tk σ) (pa_cons (pe_ix (ix_listK K rfl) (pv 2) pe_int (fun _ _ => rfl)) (pa_cons (pe_ix (ix_listK K rfl) (pv 2) pe_int (fun _ _ => rfl)) pa_nil)))))
                (pss_one (ps_if (pt_cmpR op_eq (pv 0) pe_int (nomark _))
                  (pss_one (ps_expr (pe_meth0T (pv 1) T.c_Shop T.t_Shop_add (ok_Shop_add T Er htop) (hr.mono (by decide)) T.b_Shop_add (fun σ => passAt tk σ))))
                  (pss_one (ps_expr (pe_meth0T (pv 1) T.c_Shop T.t_Shop_back (ok_Shop_back T Er htop) (hr.mono (by decide)) T.b_Shop_back (fun σ => passAt tk σ))))))))))))))
        (fun a oe cls d pn hz hf => pss_cons (ps_set (i := 3) sc_l_asked.nd rfl (Or.inl rfl) pe_str)
          (pss_cons (ps_set (i := 5) sc_l_asked.nd rfl (Or.inl rfl) (pe_lst (pa_cons (pe_callB (call_isY hz hf) (by rfl) T.n_isinstance (by decide +kernel) (pa_cons (pv 4) (pa_cons (pe_glob (v := .ref Er.a_NoStanding) rfl Er.g_NoStanding rfl) pa_nil))) (pa_cons (pe_callB (call_isY hz hf) (by rfl) T.n_isinstance (by decide +kernel) (pa_cons (pv 4) (pa_cons (pe_glob (v := .ref Er.a_NoStep) rfl Er.g_NoStep rfl) pa_nil))) (pa_cons (pe_callB (call_isY hz hf) (by rfl) T.n_isinstance (by decide +kernel) (pa_cons (pv 4) (pa_cons (pe_glob (v := .ref Er.a_NoMove) rfl Er.g_NoMove rfl) pa_nil))) (pa_cons (pe_callB (call_isY hz hf) (by rfl) T.n_isinstance (by decide +kernel) (pa_cons (pv 4) (pa_cons (pe_glob (v := .ref Er.a_NoMark) rfl Er.g_NoMark rfl) pa_nil))) pa_nil))))))
          (pss_cons (ps_set (i := 5) sc_l_asked.nd rfl (Or.inl rfl) (pe_op op_cat (pv 5) (pe_lst (pa_cons (pe_callB (call_isY hz hf) (by rfl) T.n_isinstance (by decide +kernel) (pa_cons (pv 4) (pa_cons (pe_glob (v := .ref Er.a_NothingDone) rfl Er.g_NothingDone rfl) pa_nil))) (pa_cons (pe_callB (call_isY hz hf) (by rfl) T.n_isinstance (by decide +kernel) (pa_cons (pv 4) (pa_cons (pe_glob (v := .ref Er.a_BadOffice) rfl Er.g_BadOffice rfl) pa_nil))) pa_nil)))))
          (pss_one (ps_if (pt_cmpR op_eq (pe_bmK K rfl (pe_bm PySem.F.plainAttrs_list PySem.F.slot_list_count PySem.F.type_list_count (mt_countBK K rfl h65) (pv 5) (pa_cons pe_bl pa_nil))) pe_int (nomark _))
            (pss_one (ps_set (i := 3) sc_l_asked.nd rfl (Or.inl rfl) (pe_ix (ix_listK K rfl) (pe_lst (pa_cons pe_str (pa_cons pe_str (pa_cons pe_str (pa_cons pe_str (pa_cons pe_str (pa_cons pe_str pa_nil))))))) (pe_bmK K rfl (pe_bm PySem.F.plainAttrs_list PySem.F.slot_list_index PySem.F.type_list_index (mt_indexDK K rfl h65) (pv 5) (pa_cons pe_bl pa_nil))) (fun _ _ => rfl)))) pss_nil))))))
      (pss_one (ps_ret (pv 3)))), ?_⟩
    have fin : ∀ {H' : Hp}, aft = none → Ke H H' → Q (.str told) H' := fun {H'} e kk => k0 e H' kk
    have kbad : ∀ {H' : Hp} {z : Str} {sz : List Int} {mv : List (List (List Int))} {cl : List (List Int)}, Good sz mv cl → BadP sz mv cl z → False := fun g b => good_bad g b
    cases ask with
    | put0 h0 h1 =>
      obtain ⟨a, b, c, r1, r2, r3, r4, ez, h1, h2, h3, h4⟩ := h1
      refine ⟨_, rfl, rfl, _, rfl, iteT' (decide_eq_true rfl) ?_⟩
      refine ⟨_, rfl, p, dx, _, rfl, hp, rfl, _, rfl, lt, _, 0, _, rfl, rfl, SqL.of hlt, rfl, _, rfl, lt, _, 1, _, rfl, rfl, SqL.of hlt, rfl, _, rfl, lt, _, 2, _, rfl, rfl, SqL.of hlt, rfl, _, rfl, lt, _, 3, _, rfl, rfl, SqL.of hlt, rfl, _, rfl, lt, _, 4, _, rfl, rfl, SqL.of hlt, rfl, ?_⟩
      refine nilA ⟨hd, ca, p, l, o, os, _, _, _, _, _, a, b, c, false, r1, r2, r3, r4, rfl, sh, los, shp, ez, h0, h1, h2, h3, h4, fun _ H2 kk => ⟨true, Eq.m_NoStanding, fun _ a ha => hnd_ok 0 Eq.c_NoStanding (fun j => Eq.is_ 0 j) fun s5' H3 k3 => ⟨_, rfl, fin rfl (kk.trans k3)⟩, fun q => nomatch q⟩, (fun e => by cases e), (fun e => by cases e), fun n x y z g row e0 e1 e2 e3 e4 hr hx hy hz hg => ?_⟩
      subst e0
      have hnl := (List.getElem?_eq_some_iff.mp hr).1
      exact (isV_no h0 ⟨by omega, by omega⟩).elim
    | put1 h0 ez h1 h2 h3 h4 hs =>
      rename_i v0 v1 v2 v3 v4 a b c r1 r2 r3 r4
      refine ⟨_, rfl, rfl, _, rfl, iteT' (decide_eq_true rfl) ?_⟩
      refine ⟨_, rfl, p, dx, _, rfl, hp, rfl, _, rfl, lt, _, 0, _, rfl, rfl, SqL.of hlt, rfl, _, rfl, lt, _, 1, _, rfl, rfl, SqL.of hlt, rfl, _, rfl, lt, _, 2, _, rfl, rfl, SqL.of hlt, rfl, _, rfl, lt, _, 3, _, rfl, rfl, SqL.of hlt, rfl, _, rfl, lt, _, 4, _, rfl, rfl, SqL.of hlt, rfl, ?_⟩
      refine nilA ⟨hd, ca, p, l, o, os, _, _, _, _, _, a, b, c, true, r1, r2, r3, r4, rfl, sh, los, shp, ez, h0, h1, h2, h3, h4, (fun e => by cases e), fun _ _ H2 kk => ⟨true, Eq.m_NoStep, fun _ a ha => hnd_ok 1 Eq.c_NoStep (fun j => Eq.is_ 1 j) fun s5' H3 k3 => ⟨_, rfl, fin rfl (kk.trans k3)⟩, fun q => nomatch q⟩, (fun _ e => by rw [hs] at e; cases e), fun n x y z g row e0 e1 e2 e3 e4 hr hx hy hz hg => ?_⟩
      subst e1 e2 e3
      cases r1 with
      | false => exact (isV_no h1 hx).elim
      | true =>
        cases r2 with
        | false => exact (isV_no h2 hy).elim
        | true =>
          cases r3 with
          | false => exact (isV_no h3 hz).elim
          | true => cases hs
    | put2 h0 ez h1 h2 h3 h4 =>
      rename_i v0 v1 v2 v3 v4 a b c
      refine ⟨_, rfl, rfl, _, rfl, iteT' (decide_eq_true rfl) ?_⟩
      refine ⟨_, rfl, p, dx, _, rfl, hp, rfl, _, rfl, lt, _, 0, _, rfl, rfl, SqL.of hlt, rfl, _, rfl, lt, _, 1, _, rfl, rfl, SqL.of hlt, rfl, _, rfl, lt, _, 2, _, rfl, rfl, SqL.of hlt, rfl, _, rfl, lt, _, 3, _, rfl, rfl, SqL.of hlt, rfl, _, rfl, lt, _, 4, _, rfl, rfl, SqL.of hlt, rfl, ?_⟩
      refine nilA ⟨hd, ca, p, l, o, os, _, _, _, _, _, a, b, c, true, true, true, true, false, rfl, sh, los, shp, ez, h0, h1, h2, h3, h4, (fun e => by cases e), (fun _ e => by cases e), fun _ _ _ H2 kk => ⟨true, Eq.m_NoStanding, fun _ a ha => hnd_ok 0 Eq.c_NoStanding (fun j => Eq.is_ 0 j) fun s5' H3 k3 => ⟨_, rfl, fin rfl (kk.trans k3)⟩, fun q => nomatch q⟩, fun n x y z g row e0 e1 e2 e3 e4 hr hx hy hz hg => ?_⟩
      subst e4
      exact (isV_no h4 hg).elim
    | put3 hrow ez hx hy hz hg gd =>
      rename_i n x y z g a b c row
      have hnl := (List.getElem?_eq_some_iff.mp hrow).1
      refine ⟨_, rfl, rfl, _, rfl, iteT' (decide_eq_true rfl) ?_⟩
      refine ⟨_, rfl, p, dx, _, rfl, hp, rfl, _, rfl, lt, _, 0, _, rfl, rfl, SqL.of hlt, rfl, _, rfl, lt, _, 1, _, rfl, rfl, SqL.of hlt, rfl, _, rfl, lt, _, 2, _, rfl, rfl, SqL.of hlt, rfl, _, rfl, lt, _, 3, _, rfl, rfl, SqL.of hlt, rfl, _, rfl, lt, _, 4, _, rfl, rfl, SqL.of hlt, rfl, ?_⟩
      refine nilA ⟨hd, ca, p, l, o, os, _, _, _, _, _, a, b, c, true, true, true, true, true, rfl, sh, los, shp, ez, isV_int ⟨by omega, by omega⟩, isV_int hx, isV_int hy, isV_int hz, isV_int hg, (fun e => by cases e), (fun _ e => by cases e), (fun _ _ e => by cases e), fun n' x' y' z' g' row' e0 e1 e2 e3 e4 hr' _ _ _ _ => ?_⟩
      have en : n' = n := by injection e0 with e0; omega
      have ex : x' = x := by injection e1 with e1; exact e1.symm
      have ey : y' = y := by injection e2 with e2; exact e2.symm
      have ez' : z' = z := by injection e3 with e3; exact e3.symm
      have eg : g' = g := by injection e4 with e4; exact e4.symm
      subst en ex ey ez' eg
      rw [hrow] at hr'
      obtain rfl := Option.some.inj hr'
      exact ⟨fun z b => (good_bad gd b).elim, fun _ H' kS sh' mv => ⟨_, rfl, k1 _ _ rfl H' kS sh' (fun e => by cases e) (fun e => by cases e)⟩⟩
    | str0 h0 =>
      refine ⟨_, rfl, rfl, _, rfl, iteF' (fun z => by have := of_decide_eq_true z; cases this) ⟨_, rfl, rfl, _, rfl, iteT' (decide_eq_true rfl) ?_⟩⟩
      refine ⟨_, rfl, p, dx, _, rfl, hp, rfl, _, rfl, lt, _, 0, _, rfl, rfl, SqL.of hlt, rfl, _, rfl, lt, _, 1, _, rfl, rfl, SqL.of hlt, rfl, ?_⟩
      exact nilA ⟨hd, ca, p, l, o, os, _, _, false, rfl, sh, h0, fun _ => ⟨true, Eq.m_NoStanding, fun _ a ha => hnd_ok 0 Eq.c_NoStanding (fun j => Eq.is_ 0 j) fun s5' H3 k3 => ⟨_, rfl, fin rfl k3⟩, fun q => nomatch q⟩, (fun e => by cases e)⟩
    | str1 hrow h1 =>
      rename_i n v1 row
      have hnl := (List.getElem?_eq_some_iff.mp hrow).1
      refine ⟨_, rfl, rfl, _, rfl, iteF' (fun z => by have := of_decide_eq_true z; cases this) ⟨_, rfl, rfl, _, rfl, iteT' (decide_eq_true rfl) ?_⟩⟩
      refine ⟨_, rfl, p, dx, _, rfl, hp, rfl, _, rfl, lt, _, 0, _, rfl, rfl, SqL.of hlt, rfl, _, rfl, lt, _, 1, _, rfl, rfl, SqL.of hlt, rfl, ?_⟩
      exact nilA ⟨hd, ca, p, l, o, os, _, _, true, rfl, sh, isV_int ⟨by omega, by omega⟩, (fun e => by cases e), fun _ => ⟨n, row, rfl, hrow, h1, ⟨true, Eq.m_NoMove, fun _ a ha => hnd_ok 2 Eq.c_NoMove (fun j => Eq.is_ 2 j) fun s5' H3 k3 => ⟨_, rfl, fin rfl k3⟩, fun q => nomatch q⟩⟩⟩
    | shu0 h0 ez h1 =>
      rename_i v0 v1 a b c r
      refine ⟨_, rfl, rfl, _, rfl, iteF' (fun z => by have := of_decide_eq_true z; cases this) ⟨_, rfl, rfl, _, rfl, iteF' (fun z => by have := of_decide_eq_true z; cases this) ⟨_, rfl, rfl, _, rfl, iteT' (decide_eq_true rfl) ?_⟩⟩⟩
      refine ⟨_, rfl, p, dx, _, rfl, hp, rfl, _, rfl, lt, _, 0, _, rfl, rfl, SqL.of hlt, rfl, _, rfl, lt, _, 1, _, rfl, rfl, SqL.of hlt, rfl, ?_⟩
      refine nilA ⟨hd, ca, p, l, o, os, _, _, a, b, c, false, r, rfl, sh, los, shp, ez, h0, h1, fun _ => ⟨true, Eq.m_NoStanding, fun _ a ha => hnd_ok 0 Eq.c_NoStanding (fun j => Eq.is_ 0 j) fun s5' H3 k3 => ⟨_, rfl, fin rfl k3⟩, fun q => nomatch q⟩, (fun e => by cases e), fun n k row e0 e1 hr hk => ?_⟩
      subst e0
      have hnl := (List.getElem?_eq_some_iff.mp hr).1
      exact (isV_no h0 ⟨by omega, by have := shp.cl; omega⟩).elim
    | shu1 h0 ez h1 =>
      rename_i v0 v1 a b c
      refine ⟨_, rfl, rfl, _, rfl, iteF' (fun z => by have := of_decide_eq_true z; cases this) ⟨_, rfl, rfl, _, rfl, iteF' (fun z => by have := of_decide_eq_true z; cases this) ⟨_, rfl, rfl, _, rfl, iteT' (decide_eq_true rfl) ?_⟩⟩⟩
      refine ⟨_, rfl, p, dx, _, rfl, hp, rfl, _, rfl, lt, _, 0, _, rfl, rfl, SqL.of hlt, rfl, _, rfl, lt, _, 1, _, rfl, rfl, SqL.of hlt, rfl, ?_⟩
      refine nilA ⟨hd, ca, p, l, o, os, _, _, a, b, c, true, false, rfl, sh, los, shp, ez, h0, h1, (fun e => by cases e), fun _ _ => ⟨true, Eq.m_NoMark, fun _ a ha => hnd_ok 3 Eq.c_NoMark (fun j => Eq.is_ 3 j) fun s5' H3 k3 => ⟨_, rfl, fin rfl k3⟩, fun q => nomatch q⟩, fun n k row e0 e1 hr hk => ?_⟩
      subst e1
      exact (isV_no h1 hk).elim
    | shn0 h0 ez h1 =>
      rename_i v0 v1 a b c r
      refine ⟨_, rfl, rfl, _, rfl, iteF' (fun z => by have := of_decide_eq_true z; cases this) ⟨_, rfl, rfl, _, rfl, iteF' (fun z => by have := of_decide_eq_true z; cases this) ⟨_, rfl, rfl, _, rfl, iteF' (fun z => by have := of_decide_eq_true z; cases this) ⟨_, rfl, rfl, _, rfl, iteT' (decide_eq_true rfl) ?_⟩⟩⟩⟩
      refine ⟨_, rfl, p, dx, _, rfl, hp, rfl, _, rfl, lt, _, 0, _, rfl, rfl, SqL.of hlt, rfl, _, rfl, lt, _, 1, _, rfl, rfl, SqL.of hlt, rfl, ?_⟩
      refine nilA ⟨hd, ca, p, l, o, os, _, _, a, b, c, false, r, rfl, sh, shp, ez, h0, h1, fun _ => ⟨true, Eq.m_NoStanding, fun _ a ha => hnd_ok 0 Eq.c_NoStanding (fun j => Eq.is_ 0 j) fun s5' H3 k3 => ⟨_, rfl, fin rfl k3⟩, fun q => nomatch q⟩, (fun e => by cases e), fun n k row e0 e1 hr => ?_⟩
      subst e0
      have hnl := (List.getElem?_eq_some_iff.mp hr).1
      exact (isV_no h0 ⟨by omega, by have := shp.cl; omega⟩).elim
    | shn1 h0 ez h1 hn =>
      rename_i v0 v1 a b c r
      refine ⟨_, rfl, rfl, _, rfl, iteF' (fun z => by have := of_decide_eq_true z; cases this) ⟨_, rfl, rfl, _, rfl, iteF' (fun z => by have := of_decide_eq_true z; cases this) ⟨_, rfl, rfl, _, rfl, iteF' (fun z => by have := of_decide_eq_true z; cases this) ⟨_, rfl, rfl, _, rfl, iteT' (decide_eq_true rfl) ?_⟩⟩⟩⟩
      refine ⟨_, rfl, p, dx, _, rfl, hp, rfl, _, rfl, lt, _, 0, _, rfl, rfl, SqL.of hlt, rfl, _, rfl, lt, _, 1, _, rfl, rfl, SqL.of hlt, rfl, ?_⟩
      exact nilA ⟨hd, ca, p, l, o, os, _, _, a, b, c, true, r, rfl, sh, shp, ez, h0, h1, (fun e => by cases e), fun _ => ⟨true, Eq.m_NoMark, fun _ a ha => hnd_ok 3 Eq.c_NoMark (fun j => Eq.is_ 3 j) fun s5' H3 k3 => ⟨_, rfl, fin rfl k3⟩, fun q => nomatch q⟩, hn⟩
    | add gd =>
      refine ⟨_, rfl, rfl, _, rfl, iteF' (fun z => by have := of_decide_eq_true z; cases this) ⟨_, rfl, rfl, _, rfl, iteF' (fun z => by have := of_decide_eq_true z; cases this) ⟨_, rfl, rfl, _, rfl, iteF' (fun z => by have := of_decide_eq_true z; cases this) ⟨_, rfl, rfl, _, rfl, iteF' (fun z => by have := of_decide_eq_true z; cases this) ⟨_, rfl, rfl, _, rfl, iteT' (decide_eq_true rfl) ?_⟩⟩⟩⟩⟩
      refine ⟨_, rfl, p, dx, _, rfl, hp, rfl, ?_⟩
      exact nilA ⟨hd, ca, p, l, o, os, rfl, sh, los, shp, fun z b => (good_bad gd b).elim, fun _ H' kS sh' mv => ⟨_, rfl, k1 _ _ rfl H' kS sh' (fun _ => mv) (fun e => by cases e)⟩⟩
    | back0 e =>
      refine ⟨_, rfl, rfl, _, rfl, iteF' (fun z => by have := of_decide_eq_true z; cases this) ⟨_, rfl, rfl, _, rfl, iteF' (fun z => by have := of_decide_eq_true z; cases this) ⟨_, rfl, rfl, _, rfl, iteF' (fun z => by have := of_decide_eq_true z; cases this) ⟨_, rfl, rfl, _, rfl, iteF' (fun z => by have := of_decide_eq_true z; cases this) ⟨_, rfl, rfl, _, rfl, iteF' (fun z => by have := of_decide_eq_true z; cases this) ?_⟩⟩⟩⟩⟩
      refine ⟨_, rfl, p, dx, _, rfl, hp, rfl, ?_⟩
      exact nilA ⟨hd, ca, p, l, o, os, rfl, sh, los, fun _ => ⟨true, Eq.m_NothingDone, fun _ a ha => hnd_ok 4 Eq.c_NothingDone (fun j => Eq.is_ 4 j) fun s5' H3 k3 => ⟨_, rfl, fin rfl k3⟩, fun q => nomatch q⟩, fun os' o' eo => by rw [e] at eo; simp at eo⟩
    | back1 e =>
      rename_i os' o'
      refine ⟨_, rfl, rfl, _, rfl, iteF' (fun z => by have := of_decide_eq_true z; cases this) ⟨_, rfl, rfl, _, rfl, iteF' (fun z => by have := of_decide_eq_true z; cases this) ⟨_, rfl, rfl, _, rfl, iteF' (fun z => by have := of_decide_eq_true z; cases this) ⟨_, rfl, rfl, _, rfl, iteF' (fun z => by have := of_decide_eq_true z; cases this) ⟨_, rfl, rfl, _, rfl, iteF' (fun z => by have := of_decide_eq_true z; cases this) ?_⟩⟩⟩⟩⟩
      refine ⟨_, rfl, p, dx, _, rfl, hp, rfl, ?_⟩
      refine nilA ⟨hd, ca, p, l, o, os, rfl, sh, los, (fun e0 => by rw [e0] at e; simp at e), fun os2 o2 eo H' kS sh' bk => ?_⟩
      rw [e] at eo
      obtain ⟨e1, e2⟩ := List.append_inj' eo rfl
      obtain rfl : o' = o2 := by simpa using e2
      subst e1
      exact ⟨_, rfl, k1 _ _ rfl H' kS sh' (fun e => by cases e) (fun _ => bk)⟩
end
end Fd
set_option Elab.async false
set_option linter.all false
set_option maxRecDepth 100000
set_option maxHeartbeats 4000000
/-! A law's own def, run where it is called (no guard stands around it); repr of data there. -/
namespace Fd
open PySem PySem.Spec PyProof.Rows L2 PySem.W
/-- a promise kept at one place A -/
def KeepsAt (P : Program) (w : World) (K : Frag) (mg : Str → Option Value) (base : Heap) (A : Around) (f : Addr) (fd : FuncData) (ps : List Str) (sp : Sp) : Prop :=
  ∀ (outer : List Env) (s : Shared) (H : Hp) (args : Args) (us : List Value) (vs : List V) (Q : VK) (E : XK), Env0 P w K mg base A outer s H → BindsTo s fd args (ps.zip us) → Vals vs us → sp vs H Q E → codeAny (model P w) A (.call (.ref f) args) (CR CX0 outer P w H s Q E) s
section
variable {P : Program} {w : World} {K : Frag} {mg : Str → Option Value} {base : Heap}
theorem keeps_of {x qual : Str} {st : Stmt} {f : Addr} {fd : FuncData} {N ps : List Str} {k : Nat} {sp : Sp} {A : Around} (F : Fun K x qual st f fd) (S : FnScope N ps (defScope st)) (len : ∀ vs H Q E, sp vs H Q E → vs.length = ps.length) (hr : Room (k + 1) A)
    (body : ∀ (cdv : Value) (outer : List Env) (s : Shared) (H : Hp) (vs : List V) (Q : VK) (E : XK), Room k (A.deeper (envOfC qual (defScope st) s.heap.objs.size f cdv)) → sp vs H Q E →
      ∃ t, PSs (cxOf CX0 P w K mg base N qual (defScope st) f cdv A outer s H E).nox (defBody st) t ∧ t { nx := fun _ H' => Q .non H', rt := Q } (start N vs) H) : KeepsAt P w K mg base A f fd ps sp := by
  obtain ⟨oc, od, kd, dc, pm, an, cdv, ct, osl, rfl, lk, hcd⟩ := F.ex
  intro outer s H args us vs Q E env bnd rv ask
  have kin : K.In s.heap := env.mod.kin.keeps fun b o e => (env.bs b o e).1
  have loc : ∀ y ∈ ps.zip us, (defScope st).names.lookup y.1 = some .local ∨ ((defScope st).names.lookup y.1 = some .cell ∧ ((cellsFrom (s.heap.objs.size + 1) (defScope st).names []).lookup y.1).isSome = true) := by
    rintro ⟨n, v⟩ hy
    exact (S.par n (List.of_mem_zip hy).1).imp id fun q => ⟨q, cellsFrom_some _ _ _ (.inl q)⟩
  refine codeAny_call_function hr.depth (kin _ _ lk) rfl S.co S.gen rfl (codeRec_of kin hcd) (bnd _ _ _ _ (wpAny_newFunctionEnv_cells S.kind loc ?_))
  rintro env' rfl s1 x1
  refine ⟨(env.mod.nolimit.keeps fun b o e => (env.bs b o e).1).keeps x1.toInCall.keep, codeAny_func ?_⟩
  obtain ⟨t, ht, hq⟩ := body cdv outer s H vs Q E (hr.deeper _) ask
  refine wpAny_mono (ht.nox.run [] s1 _ H _ (inv_start S hr.hd env (len _ _ _ _ ask) rv x1) hq) ?_ (fun e s' h => h)
  intro fl s' res
  cases fl with
  | ret u => exact let ⟨v, _, H', J, rv, q⟩ := res; ⟨v, H', J.os, J.bare, J.base, J.hok, rv, q⟩
  | next => exact let ⟨_, H', J, q⟩ := res; ⟨V.non, H', J.os, J.bare, J.base, J.hok, rfl, q⟩
  | brk => exact (let ⟨_, _, _, q⟩ := res; q : False).elim
  | cont => exact (let ⟨_, _, _, q⟩ := res; q : False).elim
/-- the heap in which the script alone is known, and that only where the text hasn't it already -/
def scr (a : Addr) (o : Obj) (xs : List V) (t : Bool) : Hp := fun b => if b = a ∧ t = true then some (.frz o (.lst xs)) else none
theorem scr_some {a b : Addr} {o : Obj} {xs : List V} {t : Bool} {u : HO} (h : scr a o xs t b = some u) : b = a ∧ t = true ∧ u = .frz o (.lst xs) := by
  unfold scr at h
  by_cases c : b = a ∧ t = true
  · rw [if_pos c] at h; exact ⟨c.1, c.2, (Option.some.inj h).symm⟩
  · rw [if_neg c] at h; cases h
theorem run_law {mb : Str → Option Value} {fa a : Addr} {fd : FuncData} {x : Str} {sp : Sp} {s₁ : Shared} {vs : List Value} {ns : List Int} (KX : K.In s₁.heap) (hns : s₁.heap.Ns mainGlobals mg) (hb : s₁.heap.Ns builtinsNs mb) (hbb : ∀ x : Str, x ≠ "__name__" → mb x = bootBuiltins x) (hlim : s₁.heap.NoLimit)
    (hg : s₁.gens = #[]) (ha : s₁.heap.get? a = some { cls := .type "list", data := .seq vs.toArray }) (hi : IntsAre vs ns) (hl : ns.length ≤ sizeLine) (F : ∀ base : Heap, K.In base → base.Ns mainGlobals mg → KeepsAt P w K mg base callerA fa fd [x] sp)
    (hbind : ∀ (s : Shared) (u : Value), BindsTo s fd ⟨[u], []⟩ [(x, u)]) (hsp : ∀ H : Hp, Only H → SqL K H a (ns.map V.int) → sp [.ref a] H (fun v _ => v = .bl true) E0) :
    codeAny (model P w) callerA (.call (.ref fa) ⟨[.ref a], []⟩) (fun r s' => r = .ok (.ret (.bool true)) ∧ OldK s₁.heap s'.heap ∧ s'.os = s₁.os ∧ AllBare s'.gens) s₁ := by
  have rv := vals_ints hi
  obtain ⟨H, eH⟩ : ∃ H : Hp, H = scr a { cls := .type "list", data := .seq vs.toArray } (ns.map V.int) (K.lookup a).isNone := ⟨_, rfl⟩
  have inv : ∀ {b u}, H b = some u → b = a ∧ (K.lookup a).isNone = true ∧ u = .frz { cls := .type "list", data := .seq vs.toArray } (.lst (ns.map V.int)) := fun {b u} e => by
    rw [eH] at e; exact scr_some e
  have off : ∀ {b : Addr} {o : Obj}, s₁.heap.get? b = some o → (∀ its n, o.data ≠ .seq its n) → H b = none := fun {b o} e d => by
    cases q : H b with
    | none => rfl
    | some u =>
      obtain ⟨rfl, _⟩ := inv q
      rw [ha] at e
      exact absurd (congrArg Obj.data (Option.some.inj e)).symm (d _ _)
  have ns' : ∀ {b : Addr} {m : Str → Option Value}, s₁.heap.Ns b m → (hidT s₁.heap H).Ns b m := by
    rintro b m ⟨o, es, ep, e, d, r⟩
    refine ⟨o, es, ep, hidT_get e (off e fun its n z => ?_), d, r⟩
    have d1 : o.data = Data.dict es ep := d
    rw [d1] at z; cases z
  have kin : K.In (hidT s₁.heap H) := fun b o e => by
    refine hidT_get (KX b o e) ?_
    cases q : H b with
    | none => rfl
    | some u =>
      obtain ⟨rfl, h2, _⟩ := inv q
      have e' : K.lookup b = some o := e
      rw [e'] at h2; cases h2
  have only : Only H := fun b => by
    cases q : H b with
    | none => exact .inl rfl
    | some u => obtain ⟨_, _, e⟩ := inv q; exact .inr ⟨_, _, by rw [e]⟩
  have hok : HOk P w H s₁.heap := fun b u q => by
    obtain ⟨rfl, _, e⟩ := inv q
    rw [e]
    show s₁.heap.get? b = some { cls := .type "list", data := .seq vs.toArray } ∧ ObjOk P w H s₁.heap b (.lst (ns.map V.int))
    exact ⟨ha, by rw [List.length_map]; exact hl, vs, 0, rv, ha⟩
  have hS : SqL K H a (ns.map V.int) := by
    cases hk : K.lookup a with
    | some o =>
      have e := KX a o hk
      rw [ha] at e
      have e2 := Option.some.inj e
      exact .inr ⟨o, vs.toArray, _, hk, by rw [← e2], by rw [← e2], by rw [← e2], by rw [List.size_toArray, hi.length]; exact hl, by simpa using rv⟩
    | none =>
      refine .inl (.inr ⟨{ cls := .type "list", data := .seq vs.toArray }, ?_⟩)
      rw [eH, hk]
      exact if_pos ⟨rfl, rfl⟩
  obtain ⟨mc, lim1, lim2⟩ := hlim
  have e0 : Env0 P w K mg (hidT s₁.heap H) callerA [] s₁ H := by
    refine ⟨rfl, ⟨kin, ns' hns, ⟨mb, ns' hb, hbb⟩, ⟨mc, ns' lim1, lim2⟩⟩, fun b o e => of_hidT e, Nat.le_of_eq (hidT_size _ _), trivial, ?_, hok, .of_eq hg⟩
    intro b hb
    exact absurd (show b ∈ ([] : List Addr) from hb) (by simp)
  refine codeAny_mono (F _ kin (ns' hns) [] s₁ H ⟨[.ref a], []⟩ [.ref a] [.ref a] (fun v _ => v = .bl true) E0 e0 (hbind s₁ (.ref a)) (.cons rfl .nil) (hsp H only hS)) ?_
  intro r s' res
  cases r with
  | error e => exact (show False from res).elim
  | ok fl =>
    cases fl with
    | ret u =>
      obtain ⟨v, H', os, bare, un, hok', r', q⟩ := res
      have q' : v = .bl true := q
      subst q'
      have r2 : u = Value.bool true := r'
      subst r2
      refine ⟨rfl, OldK.of_keep fun b o e => ?_, os, bare⟩
      cases h : H b with
      | none => exact un.keep b o e h (fun z => absurd (show b ∈ ([] : List Addr) from z) (by simp)) (by simp)
      | some u =>
        obtain ⟨rfl, _, eu⟩ := inv h
        have z2 := un.frzs _ _ _ (by rw [h, eu])
        rw [ha] at e
        rw [← e]
        exact (hok' _ _ z2).1
    | next => exact (show False from res).elim
    | brk => exact (show False from res).elim
    | cont => exact (show False from res).elim
end
/-- a law's walk, from a promise kept at the caller's place -/
theorem walk_at {l : OpenLaw} {n : Nat} {q : Program} {loose : List Str} {XP : (Str → Option Value) → Heap → Prop} {YP : World → Heap → Prop} {d : DefRec} {x : Str} (hn : l.most = some n) (hn2 : n ≤ sizeLine) (hdf : d.params.defaults = [])
    (F : ∀ (w : World) (mg : Str → Option Value) (fa : Addr) (h : Heap), YP w h → h.Ns mainGlobals mg → mg d.name = some (.ref fa) → ∃ (K : Frag) (fd : FuncData) (sp : Sp), K.In h ∧ (∀ (s : Shared) (u : Value), BindsTo s fd ⟨[u], []⟩ [(x, u)]) ∧
      (∀ (H : Hp) (a : Addr) (ns : List Int), ns.length ≤ n → Only H → SqL K H a (ns.map V.int) → sp [.ref a] H (fun v _ => v = .bl true) E0) ∧ ∀ base : Heap, K.In base → base.Ns mainGlobals mg → KeepsAt l.prog w K mg base callerA fa fd [x] sp) :
    WalkO q loose XP YP l.row.toRowW d [] (fun f vs => PySem.call f vs) := by
  refine Att.attach_call hn hdf ?_
  intro w s₀ s₁ mg mb fa o pm cd doc a vs ns G Y ho hd hcd hmg hobj hints hlen hg
  obtain ⟨K, fd, sp, KX, hb, hsp, hF⟩ := F w mg fa _ Y G.T.g hmg
  exact run_law KX G.T.g G.T.b G.T.builtins G.T.nolimit hg hobj hints (Nat.le_trans hlen hn2) hF hb fun H hO hS => hsp H a ns hlen hO hS
/-! ### repr of data, where no guard stands -/
def rReprD (K : Frag) : List V → Hp → VK → Prop := fun xs H Q => ∃ (a : Addr) (d : PyData), xs = [.ref a] ∧ Dp K H (.ref a) d ∧ d.showable = true ∧ d.hasDict = false ∧ d.depth ≤ 60 ∧ d.shown.length ≤ sizeLine ∧ Q (.str d.shown) H
theorem cr_reprD {X : Cx} {k : Nat} (hr : Room k X.A) (hg : X.A.guards = some []) : CallR X (.builtin "repr") (rReprD X.K) := by
  intro pins s σ H xs us Q I r h
  obtain ⟨a, d, rfl, hd, hs, hn, dp, sz, q⟩ := h
  obtain ⟨u, rfl, rx⟩ := vals1 r
  obtain ⟨as, rd⟩ := Dp.reads I d (.ref a) u hd rx
  have e : u = Value.ref a := rx
  subst e
  refine repr_of_reads' rd hs (fun z => by rw [hn] at z; cases z) hg (by have := hr.un; omega) (fun _ _ e => e) (fun h' u tk hk => ?_) sz
  exact ⟨.str d.shown, H, I.kept hk, ⟨u, rfl⟩, q⟩
end Fd
set_option Elab.async false
set_option linter.all false
set_option maxRecDepth 100000
set_option maxHeartbeats 4000000
/-! Defs that are called where no guard stands (they ask for repr). -/
namespace Fd
open PySem PySem.Spec PyProof PyProof.Rows L2 PySem.W
structure FnG (P : Program) (w : World) (K : Frag) (mg : Str → Option Value) (base : Heap) (k : Nat) (f : Addr) (fd : FuncData) (ps : List Str) (sp : Sp) : Prop where
  len : ∀ vs H Q E, sp vs H Q E → vs.length = ps.length
  run : ∀ A, Room k A → A.guards = some [] → KeepsAt P w K mg base A f fd ps sp
theorem fng_of {P : Program} {w : World} {K : Frag} {mg : Str → Option Value} {base : Heap} {x qual : Str} {st : Stmt} {f : Addr} {fd : FuncData} {N ps : List Str} {k : Nat} {sp : Sp} (F : Fun K x qual st f fd) (S : FnScope N ps (defScope st)) (len : ∀ vs H Q E, sp vs H Q E → vs.length = ps.length)
    (body : ∀ (cdv : Value) (A : Around) (outer : List Env) (s : Shared) (H : Hp) (vs : List V) (Q : VK) (E : XK), (A.deeper (envOfC qual (defScope st) s.heap.objs.size f cdv)).guards = some [] → Room k (A.deeper (envOfC qual (defScope st) s.heap.objs.size f cdv)) → sp vs H Q E →
      ∃ t, PSs (cxOf CX0 P w K mg base N qual (defScope st) f cdv A outer s H E).nox (defBody st) t ∧ t { nx := fun _ H' => Q .non H', rt := Q } (start N vs) H) : FnG P w K mg base (k + 1) f fd ps sp :=
  ⟨len, fun A hr hg => keeps_of F S len hr fun cdv outer s H vs Q E hr' h => body cdv A outer s H vs Q E hg hr' h⟩
section
variable {X : Cx} {k : Nat} {f : Addr} {fd : FuncData} {ps : List Str} {sp : Sp} {x : Str} {p pos : Pos} {e : Expr} {es : List Expr} {t : TA}
theorem pe_callG (F : FnG X.prog X.w X.K X.mg X.base k f fd ps sp) (hr : Room k X.A) (hgd : X.A.guards = some []) (hg : Gl X x) (hm : X.mg x = some (.ref f)) (hk : PySem.W.keepIn X.K (.ref f) = true) (hb : Binds X.K fd ps [])
    (ha : PA X (e :: es) t) (hdb : (x == ("__debug__" : Str)) = false := by decide) (he : starEach (e :: es) X.env = (false, eval e X.env) :: starEach es X.env := by rfl) (hpl : (backTo pos (starEach es X.env)).any (·.1) = false := by rfl) :
    PE X (.Call (.Name x p) (e :: es) [] pos) (tCall sp [] E0 t) := by
  refine ⟨fun pins s σ H Q I h => ?_⟩
  refine wpAny_Call_Name_kw (ld_glob I hg hm ?_ hdb)
  refine PySem.W.callWith_K (h₀ := X.base) I.ok.mod.kin hk (thn (ha.run pos pins s σ H _ I h) fun us s1 ⟨vs, H1, I1, r, q⟩ => ⟨I1.kIn, ?_⟩) he hpl
  have q : sp vs H1 Q E0 := by
    have q2 : sp (vs ++ []) H1 Q E0 := q
    rw [List.append_nil] at q2
    exact q2
  have hl : us.length = ps.length := by rw [← r.length]; exact F.len _ _ _ _ q
  have b := hb s1 us I1.kIn (by rw [List.append_nil]; exact hl)
  rw [List.append_nil] at b
  refine wpAny_call (codeAny_mono (F.run X.A hr hgd X.stack s1 H1 ⟨us, []⟩ us vs Q E0 I1.env0 b r q) fun r s' hq => ?_)
  cases r with
  | error e => exact pass0 pins σ H1 s1 e s' I1 hq
  | ok fl =>
    cases fl with
    | ret u => exact I1.after hq
    | next => exact False.elim hq
    | brk => exact False.elim hq
    | cont => exact False.elim hq
end
end Fd
set_option Elab.async false
set_option linter.all false
set_option maxRecDepth 100000
set_option maxHeartbeats 4000000
namespace Fd
open PySem PySem.Spec PyProof.Rows L2 PySem.W
theorem any_tI (g : List Int) : ∀ ps : List (List Int), ((ps.map tI).any fun z => PyData.eqv z (tI g)) = decide (g ∈ ps)
  | [] => by simp
  | p :: ps => by
    rw [List.map_cons, List.any_cons, any_tI g ps, eqv_tI]
    by_cases c : p = g
    · simp [c]
    · have c' : ¬ g = p := fun z => c z.symm
      simp [c, c']
theorem idx_tI {g : List Int} {ps : List (List Int)} (h : g ∈ ps) : ∃ z, (ps.map tI)[ps.idxOf g]? = some z ∧ PyData.eqv z (tI g) = true ∧ ∀ (m : Nat) (z' : PyData), m < ps.idxOf g → (ps.map tI)[m]? = some z' → PyData.eqv z' (tI g) = false := by
  have hl := List.idxOf_lt_length_of_mem h
  refine ⟨tI g, ?_, by rw [eqv_tI]; simp, fun m z' hm hz => ?_⟩
  · rw [List.getElem?_map, List.getElem?_eq_getElem hl, List.getElem_idxOf hl]; rfl
  · rw [List.getElem?_map] at hz
    cases e : ps[m]? with
    | none => rw [e] at hz; cases hz
    | some x =>
      rw [e] at hz
      have e2 : tI x = z' := Option.some.inj hz
      rw [← e2, eqv_tI]
      refine decide_eq_false fun c => ?_
      subst c
      obtain ⟨h1, h2⟩ := List.getElem?_eq_some_iff.mp e
      have h3 : ps[m] == x := by rw [h2]; simp
      have := List.not_of_lt_findIdx (p := fun y => y == x) hm
      rw [h2] at this
      simp at this
end Fd
set_option Elab.async false
set_option linter.all false
set_option maxRecDepth 100000
set_option maxHeartbeats 4000000
/-! Data that repr may be asked of. -/
namespace Fd
open PySem PySem.Spec PyProof.Rows L2 PySem.W
structure RO (D W : Nat) (d : PyData) : Prop where
  sh : d.showable = true
  nd : d.hasDict = false
  dp : d.depth ≤ D
  ls : d.leavesShort 13 = true
  wt : d.weight + 1 ≤ W
structure ROs (D W : Nat) (ds : List PyData) : Prop where
  sh : PyData.showableAll ds = true
  nd : PyData.hasDictAll ds = false
  dp : PyData.depthAll ds ≤ D
  ls : PyData.leavesShortAll 13 ds = true
  wt : PyData.weightAll ds ≤ ds.length * W
theorem ROs.of {D W : Nat} : ∀ {ds : List PyData}, (∀ d ∈ ds, RO D W d) → ROs D W ds
  | [], _ => ⟨by simp [PyData.showableAll], by simp [PyData.hasDictAll], by simp [PyData.depthAll], by simp [PyData.leavesShortAll], by simp [PyData.weightAll]⟩
  | d :: ds, h => by
    have h1 := h d (by simp)
    have h2 : ROs D W ds := ROs.of fun x hx => h x (by simp [hx])
    refine ⟨by rw [PyData.showableAll, h1.sh, h2.sh]; rfl, by rw [PyData.hasDictAll, h1.nd, h2.nd]; rfl, ?_, by rw [PyData.leavesShortAll, h1.ls, h2.ls]; rfl, ?_⟩
    · rw [PyData.depthAll]; have := h1.dp; have := h2.dp; omega
    · rw [PyData.weightAll, List.length_cons, Nat.succ_mul]; have := h1.wt; have := h2.wt; omega
theorem RO.tup {D W n : Nat} {ds : List PyData} (h : ∀ d ∈ ds, RO D W d) (hn : ds.length ≤ n) : RO (D + 1) (n * W + 1) (.tuple ds) := by
  have h2 := ROs.of h
  have h3 := Nat.mul_le_mul_right W hn
  exact ⟨by rw [PyData.showable]; exact h2.sh, by rw [PyData.hasDict]; exact h2.nd, by rw [PyData.depth]; have := h2.dp; omega, by rw [PyData.leavesShort]; exact h2.ls, by rw [PyData.weight]; have := h2.wt; omega⟩
theorem RO.lst {D W n : Nat} {ds : List PyData} (h : ∀ d ∈ ds, RO D W d) (hn : ds.length ≤ n) : RO (D + 1) (n * W + 1) (.list ds) := by
  have h2 := ROs.of h
  have h3 := Nat.mul_le_mul_right W hn
  exact ⟨by rw [PyData.showable]; exact h2.sh, by rw [PyData.hasDict]; exact h2.nd, by rw [PyData.depth]; have := h2.dp; omega, by rw [PyData.leavesShort]; exact h2.ls, by rw [PyData.weight]; have := h2.wt; omega⟩
theorem RO.int {i : Int} (h : i.natAbs < 1000000) : RO 0 21 (.int i) := by
  refine ⟨?_, by simp [PyData.hasDict], by simp [PyData.depth], ?_, ?_⟩
  · rw [PyData.showable]
    refine decide_eq_true ?_
    by_cases z : i.natAbs = 0
    · rw [z]; decide
    · have : i.natAbs.log2 < 20 := (Nat.log2_lt z).mpr (by omega)
      omega
  · rw [PyData.leavesShort]
    exact decide_eq_true (PyData.shown_int_le (by omega))
  · rw [PyData.weight]
    by_cases z : i = 0
    · simp [z]
    · have z' : i.natAbs ≠ 0 := by omega
      have : i.natAbs.log2 < 20 := (Nat.log2_lt z').mpr (by omega)
      simp [z]; omega
theorem RO.mono {D D' W W' : Nat} {d : PyData} (x : RO D W d) (h : D ≤ D') (h' : W ≤ W') : RO D' W' d := ⟨x.sh, x.nd, Nat.le_trans x.dp h, x.ls, Nat.le_trans x.wt h'⟩
theorem RO.fits {D W : Nat} {d : PyData} (x : RO D W d) (h : W ≤ 2 ^ 20) : d.shown.length ≤ sizeLine := PyData.shown_fits (B := 13) (by decide) (by decide) x.ls (by have := x.wt; omega)
/-- the data of moves and of closings -/
def encM (mv : List (List (List Int))) : PyData := .tuple (mv.map fun r => .tuple (r.map tI))
def encC (cl : List (List Int)) : PyData := .tuple (cl.map tI)
theorem ro_I {ns : List Int} {n : Nat} (h : ∀ x ∈ ns, x.natAbs < 1000000) (hn : ns.length ≤ n) : RO 1 (n * 21 + 1) (tI ns) := RO.tup (fun d hd => by
  obtain ⟨x, hx, rfl⟩ := List.mem_map.mp hd
  exact RO.int (h x hx)) (by rw [List.length_map]; exact hn)
theorem ro_M {mv : List (List (List Int))} {n1 n2 : Nat} (h : ∀ r ∈ mv, r.length ≤ n2 ∧ ∀ m ∈ r, m.length ≤ 4 ∧ ∀ x ∈ m, x.natAbs < 1000000) (hn : mv.length ≤ n1) : RO 3 (n1 * (n2 * 85 + 1) + 1) (encM mv) := RO.tup (fun d hd => by
  obtain ⟨r, hr, rfl⟩ := List.mem_map.mp hd
  exact RO.tup (fun d hd => by
    obtain ⟨m, hm, rfl⟩ := List.mem_map.mp hd
    exact ro_I ((h r hr).2 m hm).2 ((h r hr).2 m hm).1) (by rw [List.length_map]; exact (h r hr).1)) (by rw [List.length_map]; exact hn)
theorem ro_C {cl : List (List Int)} {n1 n2 : Nat} (h : ∀ r ∈ cl, r.length ≤ n2 ∧ ∀ x ∈ r, x.natAbs < 1000000) (hn : cl.length ≤ n1) : RO 2 (n1 * (n2 * 21 + 1) + 1) (encC cl) := RO.tup (fun d hd => by
  obtain ⟨r, hr, rfl⟩ := List.mem_map.mp hd
  exact ro_I (h r hr).2 (h r hr).1) (by rw [List.length_map]; exact hn)
end Fd
set_option Elab.async false
set_option linter.all false
set_option maxRecDepth 100000
set_option maxHeartbeats 4000000
namespace Fd
open PySem PySem.Spec PyProof.Rows L2 PySem.W
/-! ### what may be laid -/
structure Ly (D : Nat) (d : PyData) : Prop where
  c : d.canLay0 = true
  d : d.depth ≤ D
theorem Ly.all {D : Nat} : ∀ {ds : List PyData}, (∀ d ∈ ds, Ly D d) → PyData.canLayAll0 ds = true ∧ PyData.depthAll ds ≤ D
  | [], _ => ⟨by simp [PyData.canLayAll0], by simp [PyData.depthAll]⟩
  | d :: ds, h => by
    have h1 := h d (by simp)
    obtain ⟨h2, h3⟩ := Ly.all (fun x hx => h x (by simp [hx]) : ∀ d ∈ ds, Ly D d)
    refine ⟨by rw [PyData.canLayAll0, h1.c, h2]; rfl, ?_⟩
    rw [PyData.depthAll]
    have := h1.d
    omega
theorem Ly.tup {D : Nat} {ds : List PyData} (h : ∀ d ∈ ds, Ly D d) : Ly (D + 1) (.tuple ds) := by
  obtain ⟨h2, h3⟩ := Ly.all h
  exact ⟨by rw [PyData.canLay0]; exact h2, by rw [PyData.depth]; omega⟩
theorem Ly.int {i : Int} : Ly 0 (.int i) := ⟨by rw [PyData.canLay0], by simp [PyData.depth]⟩
theorem Ly.shaped {D : Nat} {d : PyData} (x : Ly D d) (h : D ≤ 64) : SeqAt.shaped d = true := by
  unfold SeqAt.shaped
  rw [x.c, decide_eq_true (Nat.le_trans x.d h)]; rfl
theorem ly_I (a : List Int) : Ly 1 (tI a) := Ly.tup fun d hd => by
  obtain ⟨x, _, rfl⟩ := List.mem_map.mp hd
  exact Ly.int
theorem ly_C (cl : List (List Int)) : Ly 2 (encC cl) := Ly.tup fun d hd => by
  obtain ⟨x, _, rfl⟩ := List.mem_map.mp hd
  exact ly_I x
theorem ly_M (mv : List (List (List Int))) : Ly 3 (encM mv) := Ly.tup fun d hd => by
  obtain ⟨x, _, rfl⟩ := List.mem_map.mp hd
  exact Ly.tup fun d hd => by
    obtain ⟨y, _, rfl⟩ := List.mem_map.mp hd
    exact ly_I y
theorem MV.enc : Enc MV encM := TT.enc (TT.enc TI.enc)
theorem CL.enc : Enc CL encC := TT.enc TI.enc
/-- the same data are equal -/
theorem eq_same {K : Frag} {H : Hp} {x y : V} {d : PyData} {D : Nat} {Q : VK} (h1 : Dp K H x d) (h2 : Dp K H y d) (l : Ly D d) (hD : D ≤ 64) (q : Q (.bl true) H) : rEqD K x y H Q :=
  ⟨d, d, h1, h2, l.shaped hD, l.shaped hD, by rw [SeqAt.eqv_refl d l.c]; exact q⟩
/-- two offices of one text of data -/
def Same (K : Frag) (C CO : Addr) (a b : Addr) (H : Hp) : Prop := ∃ o, OC K C ∧ OfAt C H a o ∧ OfAt C H b o ∧ (∃ t, (∀ dx fs, H b = some (.ins C dx fs) → TyX K H (.ref b) t) ∧ kitOne K t (.ref CO) = some true)
section
variable {P : Program} {w : World} {K : PySem.W.Frag} {mg : Str → Option Value} {base : Heap} (T : Txt K mg)
include T
theorem ok_Office_eq_ (C : Addr) : FnOk P w K mg base CX0 1 T.a_Office_eq T.d_Office_eq P_Office_eq (spEq (Same K C T.a_Office)) := by
  refine T.F_Office_eq.ok sc_Office_eq (fun vs H Q E h => ?_) (fun cdv A outer s H vs Q E hr h => ?_)
  · obtain ⟨a, b, rfl, _⟩ := h; rfl
  · obtain ⟨a, b, rfl, ⟨o, oc, of1, of2, t, ty, kt⟩, k⟩ := h
    obtain ⟨dx1, vs1, vm1, vc1, lk1, ds1, h1, z1, m1, c1, _, _⟩ := of1.ex
    obtain ⟨dx2, vs2, vm2, vc2, lk2, ds2, h2, z2, m2, c2, _, _⟩ := of2.ex
    refine ⟨_, (pss_cons (ps_if (pt_not (pt_val (pe_callB call_isi (by rfl) T.n_isinstance (by decide +kernel) (pa_cons (pv 1) (pa_cons (pe_glob (v := .ref T.a_Office) rfl T.g_Office rfl) pa_nil))))) (pss_one (ps_ret pe_bl)) pss_nil)
  (pss_one (ps_ret (pe_and (pe_cmpR (op_eqD hr.units) (pe_fld (pv 0) rfl) (pe_fld (pv 1) rfl) (nomark _)) (pe_and (pe_cmpR (op_eqD hr.units) (pe_fld (pv 0) rfl) (pe_fld (pv 1) rfl) (nomark _)) (pe_one (pe_cmpR (op_eqD hr.units) (pe_fld (pv 0) rfl) (pe_fld (pv 1) rfl) (nomark _)))))))), ?_⟩
    refine ⟨_, rfl, .ref b, .ref T.a_Office, t, .ref T.a_Office, true, rfl, .own _, ty _ _ h2, kt, ?_⟩
    refine ⟨true, rfl, iteF (stepT ?_)⟩
    refine ⟨_, rfl, a, C, dx1, _, _, rfl, h1, oc.c, oc.n1, offF_s _ _ _ _, _, rfl, b, C, dx2, _, _, rfl, h2, oc.c, oc.n1, offF_s _ _ _ _, eq_same (TI.enc K _ _ _ z1) (TI.enc K _ _ _ z2) (ly_I _) (by decide) ⟨true, rfl, iteT ?_⟩⟩
    refine ⟨_, rfl, a, C, dx1, _, _, rfl, h1, oc.c, oc.n2, offF_m _ _ _ _, _, rfl, b, C, dx2, _, _, rfl, h2, oc.c, oc.n2, offF_m _ _ _ _, eq_same (MV.enc K _ _ _ m1) (MV.enc K _ _ _ m2) (ly_M _) (by decide) ⟨true, rfl, iteT ?_⟩⟩
    exact ⟨_, rfl, a, C, dx1, _, _, rfl, h1, oc.c, oc.n3, offF_c _ _ _ _, _, rfl, b, C, dx2, _, _, rfl, h2, oc.c, oc.n3, offF_c _ _ _ _, eq_same (CL.enc K _ _ _ c1) (CL.enc K _ _ _ c2) (ly_C _) (by decide) (k H Ext.rfl')⟩
theorem ok_RawOffice_eq_ (C : Addr) : FnOk P w K mg base CX0 1 T.a_RawOffice___eq__ T.d_RawOffice___eq__ P_Office_eq (spEq (Same K C T.a_Office)) := by
  refine T.F_RawOffice___eq__.ok sc_Office_eq (fun vs H Q E h => ?_) (fun cdv A outer s H vs Q E hr h => ?_)
  · obtain ⟨a, b, rfl, _⟩ := h; rfl
  · obtain ⟨a, b, rfl, ⟨o, oc, of1, of2, t, ty, kt⟩, k⟩ := h
    obtain ⟨dx1, vs1, vm1, vc1, lk1, ds1, h1, z1, m1, c1, _, _⟩ := of1.ex
    obtain ⟨dx2, vs2, vm2, vc2, lk2, ds2, h2, z2, m2, c2, _, _⟩ := of2.ex
    refine ⟨_, (pss_cons (ps_if (pt_not (pt_val (pe_callB call_isi (by rfl) T.n_isinstance (by decide +kernel) (pa_cons (pv 1) (pa_cons (pe_glob (v := .ref T.a_Office) rfl T.g_Office rfl) pa_nil))))) (pss_one (ps_ret pe_bl)) pss_nil)
  (pss_one (ps_ret (pe_and (pe_cmpR (op_eqD hr.units) (pe_fld (pv 0) rfl) (pe_fld (pv 1) rfl) (nomark _)) (pe_and (pe_cmpR (op_eqD hr.units) (pe_fld (pv 0) rfl) (pe_fld (pv 1) rfl) (nomark _)) (pe_one (pe_cmpR (op_eqD hr.units) (pe_fld (pv 0) rfl) (pe_fld (pv 1) rfl) (nomark _)))))))), ?_⟩
    refine ⟨_, rfl, .ref b, .ref T.a_Office, t, .ref T.a_Office, true, rfl, .own _, ty _ _ h2, kt, ?_⟩
    refine ⟨true, rfl, iteF (stepT ?_)⟩
    refine ⟨_, rfl, a, C, dx1, _, _, rfl, h1, oc.c, oc.n1, offF_s _ _ _ _, _, rfl, b, C, dx2, _, _, rfl, h2, oc.c, oc.n1, offF_s _ _ _ _, eq_same (TI.enc K _ _ _ z1) (TI.enc K _ _ _ z2) (ly_I _) (by decide) ⟨true, rfl, iteT ?_⟩⟩
    refine ⟨_, rfl, a, C, dx1, _, _, rfl, h1, oc.c, oc.n2, offF_m _ _ _ _, _, rfl, b, C, dx2, _, _, rfl, h2, oc.c, oc.n2, offF_m _ _ _ _, eq_same (MV.enc K _ _ _ m1) (MV.enc K _ _ _ m2) (ly_M _) (by decide) ⟨true, rfl, iteT ?_⟩⟩
    exact ⟨_, rfl, a, C, dx1, _, _, rfl, h1, oc.c, oc.n3, offF_c _ _ _ _, _, rfl, b, C, dx2, _, _, rfl, h2, oc.c, oc.n3, offF_c _ _ _ _, eq_same (CL.enc K _ _ _ c1) (CL.enc K _ _ _ c2) (ly_C _) (by decide) (k H Ext.rfl')⟩
theorem ok_Office_eq : FnOk P w K mg base CX0 1 T.a_Office_eq T.d_Office_eq P_Office_eq (spEq (Same K T.a_Office T.a_Office)) := ok_Office_eq_ T _
theorem ok_RawOffice___eq__ : FnOk P w K mg base CX0 1 T.a_RawOffice___eq__ T.d_RawOffice___eq__ P_Office_eq (spEq (Same K T.a_RawOffice T.a_Office)) := ok_RawOffice_eq_ T _
end
end Fd
set_option Elab.async false
set_option linter.all false
set_option maxRecDepth 100000
set_option maxHeartbeats 4000000
namespace Fd
open PySem PySem.Spec PyProof.Rows L2 PySem.W
/-- no integer, whatever the objects in S become -/
def NIs (S : Addr → Prop) (K : Frag) (H : Hp) (v : V) : Prop := ∀ H', Ks S H H' → IsI K H' v false
def IsVs (S : Addr → Prop) (K : Frag) (H : Hp) (v : V) (a b : Int) (r : Bool) : Prop := (∃ n, v = .int n ∧ r = decide (a ≤ n ∧ n ≤ b)) ∨ (NIs S K H v ∧ r = false)
theorem IsVs.ks {S : Addr → Prop} {K : Frag} {H H' : Hp} {v : V} {a b : Int} {r : Bool} (h : IsVs S K H v a b r) (k : Ks S H H') : IsVs S K H' v a b r := h.imp id fun ⟨x, y⟩ => ⟨fun H2 k2 => x H2 (k.trans k2), y⟩
theorem IsVs.v {S : Addr → Prop} {K : Frag} {H : Hp} {v : V} {a b : Int} {r : Bool} (h : IsVs S K H v a b r) : IsV K H v a b r := h.imp id fun ⟨x, y⟩ => ⟨fun H2 k2 => x H2 k2.ks, y⟩
theorem IsVs.mono {S S' : Addr → Prop} {K : Frag} {H : Hp} {v : V} {a b : Int} {r : Bool} (h : IsVs S' K H v a b r) (m : ∀ a, S a → S' a) : IsVs S K H v a b r := h.imp id fun ⟨x, y⟩ => ⟨fun H2 k2 => x H2 (k2.mono m), y⟩
theorem isVs_int {S : Addr → Prop} {K : Frag} {H : Hp} {n a b : Int} (h : a ≤ n ∧ n ≤ b) : IsVs S K H (.int n) a b true := .inl ⟨n, rfl, by rw [decide_eq_true h]⟩
theorem isVs_out {S : Addr → Prop} {K : Frag} {H : Hp} {n a b : Int} (h : ¬ (a ≤ n ∧ n ≤ b)) : IsVs S K H (.int n) a b false := .inl ⟨n, rfl, by rw [decide_eq_false h]⟩
def sp_odd (K : Frag) (C : Addr) : Sp := fun xs H Q _ => ∃ hd ca n q o, ∃ S : Addr → Prop, xs = [.ref hd, .int n, .ref q] ∧ HandAt H hd ca ∧ (0 ≤ n ∧ n ≤ 1000) ∧ S hd ∧ (∀ a, S a → H a ≠ none) ∧ ¬ S q ∧ OC K C ∧ OfAt C (Hd (fun a => a = hd) H) q o ∧ (∀ H' dx fs, H' q = some (.ins C dx fs) → IsI K H' (.ref q) false) ∧
  ∀ v H', Ks (fun a => a = hd) H H' → HandAt H' hd ca → IsVs S K H' v 0 (n - 1) false → Q v H'
section
variable {P : Program} {w : World} {K : PySem.W.Frag} {mg : Str → Option Value} {base : Heap} (T : Txt K mg)
include T
theorem ok_l_odd : FnOk P w K mg base CX0 2 T.a_l_odd T.d_l_odd P_l_odd (sp_odd K T.a_Office) := by
  refine T.F_l_odd.ok sc_l_odd (fun vs H Q E h => ?_) (fun cdv A outer s H vs Q E hr h => ?_)
  · obtain ⟨hd, ca, n, q, o, S, rfl, _⟩ := h; rfl
  · obtain ⟨hd, ca, n, q, o, S, rfl, hA, hn, Sh, Se, Sq, oc, of, hi, k⟩ := h
    have fr : ∀ {H' : Hp} {a : Addr}, Ke H H' → H' a = none → ¬ S a := fun kk ha z => Se _ z (kk.free ha)
    obtain ⟨dxo, vs, vm, vc, lk, ds, hq, _⟩ := of.ex
    obtain ⟨nq, hq⟩ := Hd.at hq
    refine ⟨_, (pss_cons (ps_set (i := 3) sc_l_odd.nd rfl (Or.inl rfl) (pe_tup pa_nil))
  (pss_cons (ps_for PassesOwn.never rfl (pi_range1 rfl T.n_range (pa_cons pe_int pa_nil)) (pg_name (i := 4) sc_l_odd.nd rfl (Or.inl rfl)) (pss_one (ps_set (i := 3) sc_l_odd.nd rfl (Or.inl rfl) (pe_tup (pa_cons (pv 3) pa_nil)))))
  (pss_cons (ps_set (i := 5) sc_l_odd.nd rfl (Or.inl rfl) (pe_lst (pa_cons (pv 1) (pa_cons (pe_un un_neg pe_int) (pa_cons pe_bl (pa_cons pe_bl (pa_cons pe_non (pa_cons pe_str (pa_cons (pe_tup (pa_cons pe_int pa_nil)) (pa_cons (pe_lst (pa_cons pe_int pa_nil)) (pa_cons (pe_op op_pow pe_int pe_int) (pa_cons pe_dnewK (pa_cons (pv 3) (pa_cons (pv 2) pa_nil))))))))))))))
  (pss_one (ps_ret (pe_ix ix_list (pv 5) (pe_call (ok_l_draw T) (hr.mono (by decide)) rfl T.g_l_draw T.k_l_draw T.b_l_draw .nil pass0 (pa_cons (pv 0) (pa_cons pe_int pa_nil))) (fun _ _ => rfl))))))), ?_⟩
    refine ⟨by decide, fun t0 ht0 => stepN ?_⟩
    dsimp only
    refine ⟨30, rfl, by decide, by decide, for_range (fun i σ H' => (∃ t xs s4, σ = [some (.ref hd), some (.int n), some (.ref q), some (.ref t), s4, none] ∧ ¬ S t ∧ H' t = some (.tup xs)) ∧ Ke H H') ⟨⟨t0, [], _, rfl, fr .refl ht0, upd_same⟩, Ke.new ht0⟩ ?_ ?_⟩
    · rintro i σ H1 hi ⟨⟨t, xs, s4, rfl, nt, ht⟩, k1⟩
      refine ⟨_, rfl, (by show 1 ≤ sizeLine; decide), fun t1 ht1 => ⟨⟨t1, _, _, rfl, fr k1 ht1, upd_same⟩, k1.trans (Ke.new ht1)⟩⟩
    · rintro σ H1 ⟨⟨t, xs, s4, rfl, nt, ht⟩, k1⟩
      have hA1 := hA.ke k1
      refine ⟨_, rfl, 1, rfl, (by show 1 ≤ sizeLine; decide), fun t1 ht1 => ⟨(by show 1 ≤ sizeLine; decide), fun l1 hl1 => ⟨_, _, rfl, rfl, ⟨by decide, by decide, by decide⟩, fun d hd' => ⟨_, rfl, _, rfl, (by show 12 ≤ sizeLine; decide), fun L hL => stepN ?_⟩⟩⟩⟩
      dsimp only
      have e1 : Ke H1 (upd H1 t1 (.tup [.int 0])) := Ke.new ht1
      have g1 : (upd H1 t1 (.tup [.int 0])) t1 = some (.tup [.int 0]) := upd_same
      have n1 : ¬ S t1 := fr k1 ht1
      have hA2 := hA1.ke e1
      generalize upd H1 t1 (.tup [.int 0]) = H2 at e1 g1 hA2 hl1 hd' hL ⊢
      have e2 : Ke H2 (upd H2 l1 (.lst [.int 0])) := Ke.new hl1
      have g2 : (upd H2 l1 (.lst [.int 0])) l1 = some (.lst [.int 0]) := upd_same
      have n2 : ¬ S l1 := fr (k1.trans e1) hl1
      have hA3 := hA2.ke e2
      generalize upd H2 l1 (.lst [.int 0]) = H3 at e2 g2 hA3 hd' hL ⊢
      have e3 : Ke H3 (upd H3 d (.dK [])) := Ke.new hd'
      have g3 : (upd H3 d (.dK [])) d = some (.dK []) := upd_same
      have n3 : ¬ S d := fr ((k1.trans e1).trans e2) hd'
      have hA4 := hA3.ke e3
      generalize upd H3 d (.dK []) = H4 at e3 g3 hA4 hL ⊢
      have e4 := Ke.new (o := HO.lst [.int n, .int (-1), .bl true, .bl false, .non, .str "0", .ref t1, .ref l1, .int (10 ^ (30 : Int).toNat), .ref d, .ref t, .ref q]) hL
      have g4 : (upd H4 L (HO.lst [.int n, .int (-1), .bl true, .bl false, .non, .str "0", .ref t1, .ref l1, .int (10 ^ (30 : Int).toNat), .ref d, .ref t, .ref q])) L = some (HO.lst [.int n, .int (-1), .bl true, .bl false, .non, .str "0", .ref t1, .ref l1, .int (10 ^ (30 : Int).toNat), .ref d, .ref t, .ref q]) := upd_same
      have n4 : L ≠ hd := fun z => hA4.there.1 (by rw [← z]; exact hL)
      have hA5 := hA4.ke e4
      refine ⟨_, rfl, _, rfl, hd, ca, 12, rfl, hA5, ⟨by decide, by decide⟩, fun r H6 r0 r1 k6 hA6 => ?_⟩
      have g6 := k6.keep _ _ n4 g4
      have k16 : Ks (fun a => a = hd) H H6 := (k1.trans (e1.trans (e2.trans (e3.trans e4)))).ks.trans k6
      have ni : ∀ {v : V} {ty : String}, (∀ H', Ks S H6 H' → TyX K H' v (.type ty)) → (kitB ty "int" = some false ∨ (kitB ty "int" = some true ∧ kitB ty "bool" = some true)) → kitB ty "bool" = some (decide (ty = "bool")) → IsVs S K H6 v 0 (n - 1) false := fun {v ty} h h1 h2 => .inr ⟨fun H' kk => by
        rcases h1 with h1 | ⟨h1, h3⟩
        · exact ⟨.type ty, false, _, h H' kk, kit_ty h1, kit_ty h2, rfl⟩
        · exact ⟨.type ty, true, true, h H' kk, kit_ty h1, kit_ty h3, rfl⟩, rfl⟩
      have p30 : ((10 : Int) ^ (30 : Int).toNat) = 1000000000000000000000000000000 := by decide
      have ht6 : ∀ {a : Addr} {o : HO}, H4 a = some o → ¬ S a → ∀ H', Ks S H6 H' → H' a = some o := fun {a o} h na H' kk => kk.keep _ _ na (k6.keep _ _ (fun z => na (by rw [z]; exact Sh)) (e4.at h))
      rcases (by omega : r = 0 ∨ r = 1 ∨ r = 2 ∨ r = 3 ∨ r = 4 ∨ r = 5 ∨ r = 6 ∨ r = 7 ∨ r = 8 ∨ r = 9 ∨ r = 10 ∨ r = 11) with rfl | rfl | rfl | rfl | rfl | rfl | rfl | rfl | rfl | rfl | rfl | rfl
      · exact ⟨L, _, 0, _, rfl, rfl, SqL.of g6, rfl, k _ H6 k16 hA6 (isVs_out (by omega))⟩
      · exact ⟨L, _, 1, _, rfl, rfl, SqL.of g6, rfl, k _ H6 k16 hA6 (isVs_out (by omega))⟩
      · exact ⟨L, _, 2, _, rfl, rfl, SqL.of g6, rfl, k _ H6 k16 hA6 (ni (ty := "bool") (fun _ _ => .base (.bl _)) (.inr ⟨by rfl, by rfl⟩) (by rfl))⟩
      · exact ⟨L, _, 3, _, rfl, rfl, SqL.of g6, rfl, k _ H6 k16 hA6 (ni (ty := "bool") (fun _ _ => .base (.bl _)) (.inr ⟨by rfl, by rfl⟩) (by rfl))⟩
      · exact ⟨L, _, 4, _, rfl, rfl, SqL.of g6, rfl, k _ H6 k16 hA6 (ni (ty := "NoneType") (fun _ _ => .base .non) (.inl (by rfl)) (by rfl))⟩
      · exact ⟨L, _, 5, _, rfl, rfl, SqL.of g6, rfl, k _ H6 k16 hA6 (ni (ty := "str") (fun _ _ => .base (.str _)) (.inl (by rfl)) (by rfl))⟩
      · exact ⟨L, _, 6, _, rfl, rfl, SqL.of g6, rfl, k _ H6 k16 hA6 (ni (ty := "tuple") (fun H' kk => .base (.tup (ht6 (e3.at (e2.at g1)) n1 H' kk))) (.inl (by rfl)) (by rfl))⟩
      · exact ⟨L, _, 7, _, rfl, rfl, SqL.of g6, rfl, k _ H6 k16 hA6 (ni (ty := "list") (fun H' kk => .base (.lst (ht6 (e3.at g2) n2 H' kk))) (.inl (by rfl)) (by rfl))⟩
      · exact ⟨L, _, 8, _, rfl, rfl, SqL.of g6, rfl, k _ H6 k16 hA6 (isVs_out (by rw [p30]; omega))⟩
      · exact ⟨L, _, 9, _, rfl, rfl, SqL.of g6, rfl, k _ H6 k16 hA6 (ni (ty := "dict") (fun H' kk => .base (.dK (ht6 g3 n3 H' kk))) (.inl (by rfl)) (by rfl))⟩
      · exact ⟨L, _, 10, _, rfl, rfl, SqL.of g6, rfl, k _ H6 k16 hA6 (ni (ty := "tuple") (fun H' kk => .base (.tup (ht6 (e3.at (e2.at (e1.at ht))) nt H' kk))) (.inl (by rfl)) (by rfl))⟩
      · exact ⟨L, _, 11, _, rfl, rfl, SqL.of g6, rfl, k _ H6 k16 hA6 (.inr ⟨fun H' kk => hi H' _ _ (ht6 (e3.at (e2.at (e1.at (k1.at hq)))) Sq H' kk), rfl⟩)⟩
end
end Fd
set_option Elab.async false
set_option linter.all false
set_option maxRecDepth 100000
set_option maxHeartbeats 4000000
namespace Fd
open PySem PySem.Spec PyProof.Rows L2 PySem.W
/-- the three parts, as data -/
def enc3 (o : Ofc) : PyData := .list [tI o.sz, encM o.mv, encC o.cl]
theorem shq {K : Frag} {CS p : Addr} {H : Hp} {dx dx' q q' l : Addr} (h : H p = some (.ins CS dx (shF (.ref q) (.ref l)))) (h' : H p = some (.ins CS dx' (shF (.ref q') (.ref l)))) : q = q' := by
  rw [h] at h'
  injection h' with h'
  injection h' with _ _ e
  have z := congrArg (List.lookup ("kept_now" : Str)) e
  rw [shF_n, shF_n] at z
  injection z with z
  injection z
/-- repr of the three parts -/
theorem repr3 {K : Frag} {H : Hp} {l : Addr} {vs vm vc : V} {o : Ofc} {D W : Nat} {Q : VK} (hl : H l = some (.lst [vs, vm, vc])) (hs : TI H vs o.sz) (hm : MV H vm o.mv) (hc : CL H vc o.cl) (ro : RO D W (enc3 o)) (hD : D ≤ 60) (hW : W ≤ 2 ^ 20) (q : Q (.str (enc3 o).shown) H) : rReprD K [.ref l] H Q :=
  ⟨l, enc3 o, rfl, .lst (SqL.of hl) (.cons (TI.enc K H _ _ hs) (.cons (MV.enc K H _ _ hm) (.cons (CL.enc K H _ _ hc) .nil))), ro.sh, ro.nd, Nat.le_trans ro.dp hD, ro.fits hW, q⟩
def sp_kept (K : Frag) (CS : Addr) : Sp := fun xs H Q _ => ∃ hd ca p l o os D W, xs = [.ref p, .str (enc3 o).shown] ∧ SH K CS hd ca p l H o os ∧ RO D W (enc3 o) ∧ D ≤ 60 ∧ W ≤ 2 ^ 20 ∧ ∀ H', Ke H H' → Q (.bl true) H'
section
variable {P : Program} {w : World} {K : PySem.W.Frag} {mg : Str → Option Value} {base : Heap} (T : Txt K mg)
include T
theorem ok_l_kept : FnG P w K mg base 2 T.a_l_kept T.d_l_kept P_l_kept (sp_kept K T.a_Shop) := by
  refine fng_of T.F_l_kept sc_l_kept (fun vs H Q E h => ?_) (fun cdv A outer s H vs Q E hgd hr h => ?_)
  · obtain ⟨hd, ca, p, l, o, os, D, W, rfl, _⟩ := h; rfl
  · obtain ⟨hd, ca, p, l, o, os, D, W, rfl, sh, ro, hD, hW, k⟩ := h
    obtain ⟨dx, q, past, C, dxo, vs, vm, vc, vk, hp, hl, lp, oc, of, hq, hz, hm, hc, tx⟩ := sh.at
    refine ⟨_, (pss_cons (ps_set (i := 2) sc_l_kept.nd rfl (Or.inl rfl) (pe_meth0 (pv 0) T.c_Shop T.t_Shop_office (ok_Shop_office T) (hr.mono (by decide)) T.b_Shop_office .nil pass0))
  (pss_one (ps_ret (pe_cmpR op_eq (pe_callB (cr_reprD hr hgd) (by rfl) T.n_repr (by decide +kernel) (pa_cons (pe_lst (pa_cons (pe_fld (pv 2) rfl) (pa_cons (pe_fld (pv 2) rfl) (pa_cons (pe_fld (pv 2) rfl) pa_nil)))) pa_nil)) (pv 1) (nomark _))))), ?_⟩
    refine ⟨_, rfl, p, dx, _, rfl, hp, rfl, nilA ⟨hd, ca, p, l, o, os, rfl, sh, fun dx2 q2 hp2 _ => stepN ?_⟩⟩
    obtain rfl := shq (K := K) hp hp2
    refine ⟨_, rfl, q, C, dxo, _, _, rfl, hq, oc.c, oc.n1, offF_s _ _ _ _, _, rfl, q, C, dxo, _, _, rfl, hq, oc.c, oc.n2, offF_m _ _ _ _, _, rfl, q, C, dxo, _, _, rfl, hq, oc.c, oc.n3, offF_c _ _ _ _, (by show 3 ≤ sizeLine; decide), fun l2 hl2 => ?_⟩
    have k2 : Ke H (upd H l2 (.lst [vs, vm, vc])) := Ke.new hl2
    exact nilA (repr3 upd_same (TI.stb _ _ _ _ k2.tx hz) (TT.stb (TT.stb TI.stb) _ _ _ _ k2.tx hm) (TT.stb TI.stb _ _ _ _ k2.tx hc) ro hD hW ⟨_, rfl, rfl, by rw [decide_eq_true rfl]; exact k _ k2⟩)
end
end Fd
set_option Elab.async false
set_option linter.all false
set_option maxRecDepth 100000
set_option maxHeartbeats 4000000
namespace Fd
open PySem PySem.Spec PyProof.Rows L2 RZ PySem.W
theorem lw_zip {K : PySem.W.Frag} {a b : Addr} {xs ys : List V} {H0 : Hp} {Qd : Hp → Prop} {B : V → Hp → (Hp → Prop) → Prop} (Pv : Nat → Hp → Prop) (hl : xs.length = ys.length) (h0 : Pv 0 H0) (hk : ∀ i H, Pv i H → H a = some (.lst xs) ∧ H b = some (.lst ys))
    (hs : ∀ i x y t H, xs[i]? = some x → ys[i]? = some y → Pv i H → H t = none → B (.ref t) (upd H t (.tup [x, y])) (Pv (i + 1))) (hd : ∀ H, Pv xs.length H → Qd H) :
    ∃ W : Nat → Nat → Hp → Prop, (∃ m, W 0 m H0) ∧ ∀ i m H, W i m H → ((Itz K a b).stop i H ∧ Qd H) ∨ ((Itz K a b).go i H ∧ ∃ Nx : Hp → Prop, (∀ H', Nx H' → ∃ m', m' < m ∧ W (i + 1) m' H') ∧ ∀ x H', (Itz K a b).yld i H x H' → B x H' Nx) := by
  refine ⟨fun i m H => m = xs.length - i ∧ i ≤ xs.length ∧ Pv i H, ⟨xs.length, by simp, Nat.zero_le _, h0⟩, ?_⟩
  rintro i m H ⟨rfl, hi, p⟩
  obtain ⟨ka, kb⟩ := hk _ _ p
  by_cases hlt : i < xs.length
  · refine .inr ⟨⟨xs, ys, xs[i], ys[i]'(by omega), SqL.of ka, SqL.of kb, by simp [hlt], by simp [← hl, hlt]⟩, Pv (i + 1), fun H' p' => ⟨xs.length - (i + 1), by omega, rfl, hlt, p'⟩, fun v H' y => ?_⟩
    obtain ⟨t, x, y, rfl, ht, rfl, hx, hy⟩ := y
    exact hs i x y t H (hx xs (SqL.of ka)) (hy ys (SqL.of kb)) p ht
  · have e : i = xs.length := by omega
    subst e
    exact .inl ⟨⟨xs, ys, SqL.of ka, SqL.of kb, .inl (Nat.le_refl _)⟩, hd H p⟩
/-- an office as the law draws it -/
structure Drw (o : Ofc) : Prop where
  g : Good o.sz o.mv o.cl
  n5 : o.mv.length ≤ 5
  rows : RowsOk o.sz o.mv.length o.mv
  clo : ∀ r ∈ o.cl, r.length ≤ 4
theorem Drw.sz {o : Ofc} (d : Drw o) : ∃ a b c, o.sz = [a, b, c] ∧ (1 ≤ a ∧ a ≤ 4) ∧ (1 ≤ b ∧ b ≤ 4) ∧ 1 ≤ c ∧ c ≤ 4 := by
  obtain ⟨h1, h2⟩ := d.g.s
  match e : o.sz, h1 with
  | [a, b, c], _ =>
    rw [e] at h2
    exact ⟨a, b, c, rfl, h2 a (by simp), h2 b (by simp), h2 c (by simp)⟩
theorem Drw.shp {o : Ofc} (d : Drw o) : Shp o where
  s3 := d.g.s.1
  n1 := d.g.m.1
  n2 := by have := d.g.m.2.1; omega
  cl := by have := d.g.c.1; omega
  rw_ := fun r hr => ⟨by have := (d.rows r hr).2; omega, fun m hm e => by
    obtain ⟨_, _, _, _, _, _, _, _, rfl, _⟩ := (d.rows r hr).1.1 m hm
    cases e⟩
  rc := fun r hr => by have := d.clo r hr; omega
  sh := fun _ => (good_sh d.g).2.2 d.g.s
theorem Drw.ro {o : Ofc} (d : Drw o) : RO 4 (3 * (5 * (6 * 85 + 1) + 1) + 1) (enc3 o) := RO.lst (fun e he => by
  obtain ⟨a, b, c, ez, ha, hb, hc⟩ := d.sz
  simp only [List.mem_cons, List.mem_nil_iff, or_false] at he
  rcases he with rfl | rfl | rfl
  · refine (ro_I (n := 3) (fun x hx => ?_) (by rw [ez]; exact Nat.le_refl 3)).mono (by decide) (by decide)
    have := d.g.s.2 x hx
    omega
  · refine ro_M (n2 := 6) (fun r hr => ⟨(d.rows r hr).2, fun m hm => ?_⟩) d.n5
    obtain ⟨a', b', c', s, n, k, g, e, rfl, h1, h2, h3, h4, h5⟩ := (d.rows r hr).1.1 m hm
    rw [ez] at e
    obtain ⟨rfl, rfl, rfl⟩ : a = a' ∧ b = b' ∧ c = c' := by simpa using e
    refine ⟨Nat.le_refl 4, fun x hx => ?_⟩
    have n5 := d.n5
    simp only [List.mem_cons, List.mem_nil_iff, or_false] at hx
    rcases hx with rfl | rfl | rfl | rfl <;> omega
  · refine (ro_C (n1 := 5) (n2 := 4) (fun r hr => ⟨d.clo r hr, fun x hx => ?_⟩) (by have := d.g.c.1; have := d.n5; omega)).mono (by decide) (by decide)
    obtain ⟨a', b', c', e, h1, h2⟩ := (d.g.c.2 r hr).1 x hx
    rw [ez] at e
    obtain ⟨rfl, rfl, rfl⟩ : a = a' ∧ b = b' ∧ c = c' := by simpa using e
    omega) (Nat.le_refl 3)
def W5 : List Str := ["standing", "step", "step", "step", "standing"]
def dueM (bs : List Bool) : List Str := ((W5.zip bs).filter (·.2)).map (·.1)
theorem ask0 {K : Frag} {H : Hp} {o : Ofc} {os : List Ofc} {v0 v1 v2 v3 v4 : V} {a b c : Int} {b0 b1 b2 b3 b4 : Bool} (ez : o.sz = [a, b, c]) (h0 : IsV K H v0 0 ((o.mv.length : Int) - 1) (!b0)) (h1 : IsV K H v1 0 (a - 1) (!b1)) (h2 : IsV K H v2 0 (b - 1) (!b2)) (h3 : IsV K H v3 0 (c - 1) (!b3)) (h4 : IsV K H v4 0 ((o.mv.length : Int) - 1) (!b4)) (h : dueM [b0, b1, b2, b3, b4] ≠ []) :
    ∃ told rest, dueM [b0, b1, b2, b3, b4] = told :: rest ∧ AskR K H o os 0 [v0, v1, v2, v3, v4] told none := by
  cases b0 with
  | true => exact ⟨"standing", _, rfl, .put0 h0 ⟨a, b, c, _, _, _, _, ez, h1, h2, h3, h4⟩⟩
  | false =>
    by_cases e : (!b1 && !b2 && !b3) = true
    · rw [Bool.and_eq_true, Bool.and_eq_true] at e
      obtain ⟨⟨e1, e2⟩, e3⟩ := e
      rw [e1] at h1
      rw [e2] at h2
      rw [e3] at h3
      have e1' : b1 = false := by simpa using e1
      have e2' : b2 = false := by simpa using e2
      have e3' : b3 = false := by simpa using e3
      subst e1' e2' e3'
      cases b4 with
      | true => exact ⟨"standing", _, rfl, .put2 h0 ez h1 h2 h3 h4⟩
      | false => exact absurd rfl h
    · have hs : (!b1 && !b2 && !b3) = false := by simpa using e
      refine ⟨"step", dueM [false, b1, b2, b3, b4] |>.tail, ?_, .put1 h0 ez h1 h2 h3 h4 hs⟩
      revert hs
      cases b1 <;> cases b2 <;> cases b3 <;> cases b4 <;> intro hs <;> first | rfl | cases hs
def dueI (bs : List Bool) (i : Nat) : List Str := (((W5.zip bs).take i).filter (·.2)).map (·.1)
theorem dueI_snoc {bs : List Bool} {i : Nat} {w : Str} {f : Bool} (h1 : W5[i]? = some w) (h2 : bs[i]? = some f) : dueI bs (i + 1) = dueI bs i ++ (if f = true then [w] else []) := by
  unfold dueI
  have e : (W5.zip bs)[i]? = some (w, f) := by rw [List.getElem?_zip_eq_some]; exact ⟨h1, h2⟩
  rw [List.take_succ, e, List.filter_append, List.map_append]
  cases f <;> rfl
theorem dueI_all {bs : List Bool} (h : bs.length = 5) : dueI bs 5 = dueM bs := by
  unfold dueI dueM
  rw [List.take_of_length_le (by rw [List.length_zip, h]; decide)]
theorem nodup_lt {α : Type} [LT α] (irr : ∀ a : α, ¬ a < a) {l : List α} (h : l.Pairwise (· < ·)) : l.Nodup := by
  rw [List.nodup_iff_pairwise_ne]
  exact h.imp fun {a b} q (e : a = b) => irr a (by rw [← e] at q; exact q)
theorem dup_I {row : List Int} {k : Int} (h : k ∈ row) : ¬ (sortI (row ++ [k])).Pairwise (· < ·) := fun z => by
  have n := (perm_sortI (row ++ [k])).nodup_iff.mp (nodup_lt (fun a => by omega) z)
  rw [List.nodup_append] at n
  exact n.2.2 k h k (by simp) rfl
theorem dup_T {row : List (List Int)} {m : List Int} (h : m ∈ row) : ¬ (sortT (row ++ [m])).Pairwise (· < ·) := fun z => by
  have p : (sortT (row ++ [m])).Perm (row ++ [m]) := List.mergeSort_perm _ _
  have n := p.nodup_iff.mp (nodup_lt (fun a => List.lt_irrefl a) z)
  rw [List.nodup_append] at n
  exact n.2.2 m h m (by simp) rfl
theorem bad_clos {o : Ofc} (d : Drw o) {n : Nat} {row : List Int} {k : Int} (hr : o.cl[n]? = some row) (h : k ∈ row) : BadP o.sz o.mv (o.cl.set n (sortI (row ++ [k]))) "closings" :=
  .inr (.inr ⟨d.g.s, d.g.m, fun z => dup_I h (z.2 _ (List.mem_set (List.getElem?_eq_some_iff.mp hr).1 _)).2.1, rfl⟩)
theorem bad_mov {o : Ofc} (d : Drw o) {n : Nat} {row : List (List Int)} {m : List Int} (hr : o.mv[n]? = some row) (h : m ∈ row) : BadP o.sz (o.mv.set n (sortT (row ++ [m]))) o.cl "moves" :=
  .inr (.inl ⟨d.g.s, fun z => dup_T h (z.2.2 _ (List.mem_set (List.getElem?_eq_some_iff.mp hr).1 _)).2.1, rfl⟩)
/-- the things asked for, j of them -/
def Thg (S : Addr → Prop) (K : Frag) (H : Hp) (lims rights : List Int) (bs : List Bool) (ws : List V) (j : Nat) : Prop := ws.length = j ∧ ∀ i, i < j → ∃ v, ws[i]? = some v ∧ IsVs S K H v 0 (lims.getD i 0 - 1) (!(bs.getD i false)) ∧ (bs.getD i false = false → v = .int (rights.getD i 0))
theorem Thg.ks {S : Addr → Prop} {K : Frag} {H H' : Hp} {lims rights : List Int} {bs : List Bool} {ws : List V} {j : Nat} (x : Thg S K H lims rights bs ws j) (k : Ks S H H') : Thg S K H' lims rights bs ws j := ⟨x.1, fun i hi => by
  obtain ⟨v, e, h1, h2⟩ := x.2 i hi
  exact ⟨v, e, h1.ks k, h2⟩⟩
theorem Thg.snoc {S : Addr → Prop} {K : Frag} {H : Hp} {lims rights : List Int} {bs : List Bool} {ws : List V} {j : Nat} {v : V} (x : Thg S K H lims rights bs ws j) (h1 : IsVs S K H v 0 (lims.getD j 0 - 1) (!(bs.getD j false))) (h2 : bs.getD j false = false → v = .int (rights.getD j 0)) : Thg S K H lims rights bs (ws ++ [v]) (j + 1) :=
  ⟨by rw [List.length_append, x.1]; rfl, fun i hi => by
    by_cases c : i < j
    · obtain ⟨u, e, g⟩ := x.2 i c
      exact ⟨u, by rw [List.getElem?_append_left (by rw [x.1]; exact c)]; exact e, g⟩
    · have e : i = j := by omega
      subst e
      exact ⟨v, by rw [List.getElem?_append_right (by rw [x.1]; omega), x.1]; simp, h1, h2⟩⟩
def sp_lbad (K : Frag) (CS CO : Addr) : Sp := fun xs H Q _ => ∃ hd ca p l q o, xs = [.ref hd, .ref p] ∧ SH K CS hd ca p l H o [] ∧ (∃ dx, H p = some (.ins CS dx (shF (.ref q) (.ref l)))) ∧ OfAt CO (Hd (S3 hd p l) H) q o ∧ Drw o ∧ ∀ H', Ks (fun a => a = hd) H H' → HandAt H' hd ca → Q (.bl true) H'
end Fd
set_option Elab.async false
set_option linter.all false
set_option maxRecDepth 100000
set_option maxHeartbeats 4000000
namespace Fd
open PySem PySem.Spec PyProof.Rows L2 PySem.W
theorem std_at {C hd ca : Addr} {H : Hp} {p : Addr} {o : Ofc} (x : OfAt C H p o) (h : HandAt H hd ca) : OfAt C (Hd (fun x => x = hd) H) p o := by
  obtain ⟨osz, omv, ocl⟩ := o
  obtain ⟨dx', vs, vm, vc, l, ds, h1, h2, h3, h4, h5, h6⟩ := x.ex
  obtain ⟨cells, i, b, s, c, hh, _⟩ := h
  have tx : Tx H (Hd (fun x => x = hd) H) := ⟨fun a xs e => Hd.get (fun z => by rw [z, hh] at e; cases e) e⟩
  have nl : l ≠ hd := fun z => by
    rw [z, hh] at h5
    have h6' : Paired (Kept H) ds omv := h6
    clear h6
    have e : hand5 ca i b s c = ds := by injection h5 with h5; injection h5
    rw [← e] at h6'
    cases h6' with
    | cons _ t =>
      cases t with
      | cons q _ =>
        obtain ⟨d, kvs, z, _⟩ := q
        cases z
  refine ⟨dx', vs, vm, vc, l, ds, Hd.get (fun z => by rw [z, hh] at h1; cases h1) h1, TI.stb _ _ _ _ tx h2, TT.stb (TT.stb TI.stb) _ _ _ _ tx h3, TT.stb TI.stb _ _ _ _ tx h4, Hd.get nl h5, pimp (fun v row ⟨d, kvs, e, hd', g1, g2⟩ => ?_) h6⟩
  refine ⟨d, kvs, e, Hd.get (fun z => by rw [z, hh] at hd'; cases hd') hd', g1, fun st => (g2 st).imp id fun ⟨li, z1, z2⟩ => ⟨li, z1, Hd.get (fun z => ?_) z2⟩⟩
  rw [z, hh] at z2
  have e2 : hand5 ca i b s c = (goalsIn row st).map V.int := by injection z2 with z2; injection z2
  cases e3 : goalsIn row st with
  | nil => rw [e3] at e2; cases e2
  | cons x r => rw [e3] at e2; cases e2
/-- a shop is made -/
theorem mk_shop {K : Frag} {CS hd ca : Addr} {H : Hp} {v : V} {o : Ofc} {G : Addr → Hp → Prop} {E : XK} (hA : HandAt H hd ca) (st : Std K (fun a => a = hd) H v o)
    (k : ∀ p l H', Ke H H' → SH K CS hd ca p l H' o [] → (∃ dx, H' p = some (.ins CS dx (shF v (.ref l)))) → (∀ C q, v = .ref q → OfAt C (Hd (fun a => a = hd) H) q o → OfAt C (Hd (S3 hd p l) H') q o) → G p H') :
    ∀ x dx, H x = none → H dx = none → dx ≠ x → sp_shop CS (.ref x :: ([v] ++ [])) (upd (upd H dx (.own x)) x (.ins CS dx [])) (fun w H2 => w = .non ∧ G x H2) E := fun x dx hx hdx ndx => by
  have k1 : Ke H (upd (upd H dx (.own x)) x (.ins CS dx [])) := (Ke.new hdx).trans (Ke.new (by rw [upd_ne ndx.symm]; exact hx))
  refine ⟨x, dx, v, rfl, upd_same, fun l hl => ⟨rfl, ?_⟩⟩
  have nxl : x ≠ l := fun z => by rw [← z, upd_same] at hl; cases hl
  have hlH : H l = none := k1.free hl
  have k2 : Ke H (upd (upd (upd H dx (.own x)) x (.ins CS dx [])) x (.ins CS dx (putF "kept_now" v []))) := k1.mutNew hx
  have hl2 : (upd (upd (upd H dx (.own x)) x (.ins CS dx [])) x (.ins CS dx (putF "kept_now" v []))) l = none := by rw [upd_ne nxl.symm]; exact hl
  have k3 := (k2.trans (Ke.new (o := .lst []) hl2)).mutNew (o := .ins CS dx (shF v (.ref l))) hx
  have hp3 : (upd (upd (upd (upd (upd H dx (.own x)) x (.ins CS dx [])) x (.ins CS dx (putF "kept_now" v []))) l (.lst [])) x (.ins CS dx (shF v (.ref l)))) x = some (.ins CS dx (shF v (.ref l))) := upd_same
  have hl3 : (upd (upd (upd (upd (upd H dx (.own x)) x (.ins CS dx [])) x (.ins CS dx (putF "kept_now" v []))) l (.lst [])) x (.ins CS dx (shF v (.ref l)))) l = some (.lst []) := by rw [upd_ne nxl.symm]; exact upd_same
  generalize (upd (upd (upd (upd (upd H dx (.own x)) x (.ins CS dx [])) x (.ins CS dx (putF "kept_now" v []))) l (.lst [])) x (.ins CS dx (shF v (.ref l)))) = H' at k3 hp3 hl3 ⊢
  have mv : ∀ C q, v = .ref q → OfAt C (Hd (fun a => a = hd) H) q o → OfAt C (Hd (S3 hd x l) H') q o := fun C q _ of => of.ke (Ke.of fun a u e => by
    obtain ⟨e1, e2⟩ := Hd.at e
    refine Hd.get (fun z => ?_) (k3.at e2)
    rcases z with z | z | z
    · exact e1 z
    · rw [z, hx] at e2; cases e2
    · rw [z, hlH] at e2; cases e2)
  obtain ⟨q, C, rfl, oc, of⟩ := st
  exact k x l H' k3 ⟨hA.ke k3, fun z => hA.there.1 (by rw [← z]; exact hx), fun z => hA.there.1 (by rw [← z]; exact hlH), fun z => hA.there.2 (by rw [← z]; exact hx), fun z => hA.there.2 (by rw [← z]; exact hlH), nxl, dx, .ref q, [], hp3, hl3, ⟨q, C, rfl, oc, mv C q rfl of⟩, .nil⟩ ⟨dx, hp3⟩ mv
end Fd
set_option Elab.async false
set_option linter.all false
set_option maxRecDepth 100000
set_option maxHeartbeats 4000000
namespace Fd
open PySem PySem.Spec PyProof.Rows L2 RZ PySem.W
/-- what the law still asks of a shop, behind the moves that are put wrongly -/
def badTail (K : Frag) (CS CO : Addr) : TS :=
  tSeq
    (tFor
      (iList K
        (tLst (tCons (tC (V.int 1)) (tCons (tC (V.int 2)) (tCons (tC (V.int 3)) tNil)))))
      (gName 12)
      (tSeq
        (tAsg
          (tIf (tTest (tOp rEq (tVar 12) (tC (V.int 1))))
            (tCB
              (fun xs H_1 Q =>
                ∃ x n,
                  xs = [x] ∧
                    LenV
                        K
                        x H_1 n ∧
                      Q (V.int ↑n) H_1)
              (tCons
                (tOp
                  (rIxT
                    K)
                  (tFld
                    K
                    (tVar 2) ("moves" : Str))
                  (tVar 5))
                tNil))
            (tOp
              (rIxT
                K)
              (tFld
                K
                (tVar 2) ("sizes" : Str))
              (tC (V.int 2))))
          (gName 13))
        (tSeq
          (tAsg
            (tOp
              (rIxL
                K)
              (tLst
                (tCons (tC (V.str ("move" : Str)))
                  (tCons (tC (V.str ("mark" : Str))) (tCons (tC (V.str ("mark" : Str))) tNil))))
              (tOp (rI0 fun i j => V.int (i - j)) (tVar 12) (tC (V.int 1))))
            (gName 14))
          (tSeq
            (tAsg (tCall (sp_odd K CO) [] E0 (tCons (tVar 0) (tCons (tVar 13) (tCons (tVar 2) tNil))))
              (gName 15))
            (tSeq
              (tAsg (tCall (sp_odd K CO) [] E0 (tCons (tVar 0) (tCons (tVar 3) (tCons (tVar 2) tNil))))
                (gName 16))
              (tSeq
                (tIfS
                  (tOr
                    (tTest
                      (tOp rNe
                        (tCall (sp_asked K CS) [] E0
                          (tCons (tVar 12)
                            (tCons (tVar 1) (tCons (tLst (tCons (tVar 16) (tCons (tVar 15) tNil))) tNil))))
                        (tC (V.str ("standing" : Str)))))
                    (tTest
                      (tOp rNe
                        (tCall (sp_asked K CS) [] E0
                          (tCons (tVar 12)
                            (tCons (tVar 1) (tCons (tLst (tCons (tVar 16) (tCons (tC (V.int 0)) tNil))) tNil))))
                        (tC (V.str ("standing" : Str))))))
                  (tRet (tC (V.bl false))) tNext)
                (tIfS
                  (tOr
                    (tTest
                      (tOp rNe
                        (tCall (sp_asked K CS) [] E0
                          (tCons (tVar 12)
                            (tCons (tVar 1) (tCons (tLst (tCons (tVar 5) (tCons (tVar 15) tNil))) tNil))))
                        (tVar 14)))
                    (tNot (tB (tCall (sp_kept K CS) [] E0 (tCons (tVar 1) (tCons (tVar 4) tNil))))))
                  (tRet (tC (V.bl false))) tNext)))))))
    (tSeq
      (tFor
        (iRng1
          (tCons
            (tOp
              (rIxT
                K)
              (tFld
                K
                (tVar 2) ("sizes" : Str))
              (tC (V.int 2)))
            tNil))
        (gName 17)
        (tIfS
          (tTest
            (tOp
              (rIn
                K
                false)
              (tVar 17)
              (tOp
                (rIxT
                  K)
                (tFld
                  K
                  (tVar 2) ("closings" : Str))
                (tVar 5))))
          (tIfS
            (tTest
              (tOp rNe
                (tCall (sp_part K CS) [] E0
                  (tCons (tC (V.int 2)) (tCons (tVar 1) (tCons (tLst (tCons (tVar 5) (tCons (tVar 17) tNil))) tNil))))
                (tC (V.str ("closings" : Str)))))
            (tRet (tC (V.bl false))) tNext)
          (tIfS
            (tTest
              (tOp rNe
                (tCall (sp_asked K CS) [] E0
                  (tCons (tC (V.int 3)) (tCons (tVar 1) (tCons (tLst (tCons (tVar 5) (tCons (tVar 17) tNil))) tNil))))
                (tC (V.str ("mark" : Str)))))
            (tRet (tC (V.bl false))) tNext)))
      (tSeq
        (tFor
          (iTup
            K
            (tOp
              (rIxT
                K)
              (tFld
                K
                (tVar 2) ("moves" : Str))
              (tVar 5)))
          (gName 18)
          (tIfS
            (tTest
              (tOp rNe
                (tCall (sp_part K CS) [] E0
                  (tCons (tC (V.int 0))
                    (tCons (tVar 1)
                      (tCons
                        (tOp rCat (tLst (tCons (tVar 5) tNil))
                          (tCB
                            (fun xs H_1 Q =>
                              ∃ p ys,
                                xs = [V.ref p] ∧
                                  (SqL
                                        K
                                        H_1 p ys ∨
                                      SqT
                                        K
                                        H_1 p ys) ∧
                                    ∀ (l : Addr), H_1 l = none → Q (V.ref l) (upd H_1 l (HO.lst ys)))
                            (tCons (tVar 18) tNil)))
                        tNil))))
                (tC (V.str ("moves" : Str)))))
            (tRet (tC (V.bl false))) tNext))
        (tRet
          (tAndV (tCall (sp_kept K CS) [] E0 (tCons (tVar 1) (tCons (tVar 4) tNil)))
            (tAndV
              (tOp rEq (tMeth CS ("depth" : Str) (sp_depth K CS) [] E0 (tVar 1) tNil) (tC (V.int 0)))
              (tOp rEq
                (tCall (sp_asked K CS) [] E0 (tCons (tC (V.int 5)) (tCons (tVar 1) (tCons (tLst tNil) tNil))))
                (tC (V.str ("nothing" : Str)))))))))
theorem bad_tail {K : Frag} {CS CO hd ca p l q : Addr} {o : Ofc} {n : Nat} {H : Hp} {D : Ends} {t6 t7 t8 t9 t10 t11 t12 t13 t14 t15 t16 t17 t18 t19 t20 t21 : Option V} (sh : SH K CS hd ca p l H o []) (hp : ∃ dx, H p = some (.ins CS dx (shF (.ref q) (.ref l)))) (oc : OC K CO) (of : OfAt CO (Hd (fun a => a = hd) H) q o)
    (isO : ∀ (H' : Hp) (dx : Addr) (fs : List (Str × V)), H' q = some (.ins CO dx fs) → IsI K H' (.ref q) false) (dr : Drw o) (hn : n < o.mv.length) (k : ∀ H', Ks (fun a => a = hd) H H' → HandAt H' hd ca → D.rt (.bl true) H') :
    badTail K CS CO D [some (.ref hd), some (.ref p), some (.ref q), some (.int o.mv.length), some (.str (enc3 o).shown), some (.int n), t6, t7, t8, t9, t10, t11, t12, t13, t14, t15, t16, t17, t18, t19, t20, t21] H := by
  obtain ⟨dx, hp⟩ := hp
  obtain ⟨dxo, vs, vm, vc, lk, ds, hq0, hz0, hm0, hc0, _, _⟩ := of.ex
  obtain ⟨nqh, hq⟩ := Hd.at hq0
  have le : Tx (Hd (fun a => a = hd) H) H := (Le.ke Hd.le).tx
  have hz := TI.stb _ _ _ _ le hz0
  have hm := TT.stb (TT.stb TI.stb) _ _ _ _ le hm0
  have hc := TT.stb TI.stb _ _ _ _ le hc0
  obtain ⟨a, b, c, ez, ha, hb, hcc⟩ := dr.sz
  obtain ⟨zs, rfl, hzs⟩ := hz
  rw [ez] at hzs
  obtain ⟨mm, ms, rfl, hmm, pm⟩ := hm
  obtain ⟨cm, cs, rfl, hcm, pc⟩ := hc
  have lcl := dr.shp.cl
  have n5 := dr.n5
  obtain ⟨row, hrow⟩ : ∃ r, o.mv[n]? = some r := ⟨_, List.getElem?_eq_getElem hn⟩
  obtain ⟨cro, hcro⟩ : ∃ r, o.cl[n]? = some r := ⟨_, List.getElem?_eq_getElem (by omega)⟩
  obtain ⟨rv, hrv, ra, rws, rfl, hra, prw⟩ := pget pm hrow
  obtain ⟨cv, hcv, cra, rfl, hcra⟩ := pget pc hcro
  have irv : atI ms (n : Int) = some (.ref ra) := atI_nat hrv rfl
  have icv : atI cs (n : Int) = some (.ref cra) := atI_nat hcv rfl
  have lrw := plen prw
  have lr6 := (dr.rows row (List.mem_of_getElem? hrow)).2
  have hA := sh.hA
  -- one deed that is refused
  refine ⟨(by show 3 ≤ sizeLine; decide), fun kl hkl => ⟨kl, rfl, ⟨_, SqL.of upd_same⟩, ?_⟩⟩
  have kk1 : Ke H (upd H kl (.lst [.int 1, .int 2, .int 3])) := Ke.new hkl
  have nk : kl ≠ hd := fun z => hA.there.1 (by rw [← z]; exact hkl)
  refine fo_L (R := II H) (fun d σ H' => (∃ t12 t13 t14 t15 t16 t17 t18 t19 t20 t21, σ = [some (.ref hd), some (.ref p), some (.ref q), some (.int o.mv.length), some (.str (enc3 o).shown), some (.int n), t6, t7, t8, t9, t10, t11, t12, t13, t14, t15, t16, t17, t18, t19, t20, t21]) ∧ Ks (fun a => a = hd) H H' ∧ Ks (fun a => a = hd) (upd H kl (.lst [.int 1, .int 2, .int 3])) H' ∧ HandAt H' hd ca) (pmap_int [1, 2, 3]) ⟨⟨_, _, _, _, _, _, _, _, _, _, rfl⟩, kk1.ks, .refl, hA.ke kk1⟩ (fun d σ H' x => x.2.2.1.keep _ _ nk upd_same) ?_ ?_
  · rintro d kd r v σ H2 e rfl ⟨⟨t12, t13, t14, t15, t16, t17, t18, t19, t20, t21, rfl⟩, k2, kb, hA2⟩
    have hk3 : kd = 1 ∨ kd = 2 ∨ kd = 3 := by
      have : kd ∈ [1, 2, 3] := by rw [e]; simp
      simpa using this
    rcases hk3 with rfl | rfl | rfl
    · refine ⟨_, rfl, rfl, _, rfl, iteT' (decide_eq_true rfl) ⟨_, rfl, q, CO, dxo, _, _, rfl, k2.keep _ _ nqh hq, oc.c, oc.n2, offF_m _ _ _ _, _, rfl, mm, ms, n, _, rfl, rfl, SqT.of (k2.tup _ _ hmm), irv, .ref ra, _, rfl, .inr ⟨_, SqT.of (k2.tup _ _ hra), rfl⟩, stepN ?_⟩⟩
      refine ⟨(by show 3 ≤ sizeLine; decide), fun ll hll => ⟨_, rfl, _, _, rfl, rfl, ll, _, _, _, rfl, rfl, SqL.of upd_same, rfl, stepN ?_⟩⟩
      have kl2 : Ke H2 (upd H2 ll (.lst [.str "move", .str "mark", .str "mark"])) := Ke.new hll
      have hA3 := hA2.ke kl2
      have k03 := k2.trans kl2.ks
      have kb3 := kb.trans kl2.ks
      generalize upd H2 ll (.lst [.str "move", .str "mark", .str "mark"]) = H3 at kl2 hA3 k03 kb3 ⊢
      refine ⟨_, rfl, _, rfl, _, rfl, hd, ca, (rws.length : Int), q, o, fun a => a = hd, rfl, hA3, ⟨by omega, by omega⟩, rfl, fun a' z => by rw [z]; exact hA3.there.1, nqh, oc, of.ke (Hd.ke k03), isO, fun v H4 k4 hA4 hv => stepN ?_⟩
      refine ⟨_, rfl, _, rfl, _, rfl, hd, ca, (o.mv.length : Int), q, o, fun a => a = hd, rfl, hA4, ⟨by omega, by omega⟩, rfl, fun a' z => by rw [z]; exact hA4.there.1, nqh, oc, of.ke (Hd.ke (k03.trans k4)), isO, fun w H5 k5 hA5 hw => stepN ?_⟩
      have k05 := (k03.trans k4).trans k5
      have kb5 := (kb3.trans k4).trans k5
      have hv5 := hv.ks k5
      refine ⟨_, rfl, _, rfl, _, rfl, _, rfl, (by show 2 ≤ sizeLine; decide), fun la hla => ?_⟩
      have kla : Ke H5 (upd H5 la (.lst [w, v])) := Ke.new hla
      have gla : (upd H5 la (.lst [w, v])) la = some (.lst [w, v]) := upd_same
      have hw1 := hw.v.ke kla
      have hv1 := hv5.v.ke kla
      generalize upd H5 la (.lst [w, v]) = H6 at kla gla hw1 hv1 ⊢
      have k06 := k05.trans kla.ks
      have hA6 := hA5.ke kla
      refine ⟨hd, ca, p, l, o, [], 1, la, _, _, none, rfl, sh.ks k06 hA6, by decide, dr.shp, gla, AskR.str0 hw1, fun _ H7 k7 => ⟨rfl, _, rfl, ifNT rfl ?_⟩, fun o' os' e => by cases e⟩
      refine ⟨_, rfl, _, rfl, _, rfl, (by show 2 ≤ sizeLine; decide), fun lb hlb => ?_⟩
      have klb : Ke H7 (upd H7 lb (.lst [w, .int 0])) := Ke.new hlb
      have glb : (upd H7 lb (.lst [w, .int 0])) lb = some (.lst [w, .int 0]) := upd_same
      have hw2 := hw1.ke (k7.trans klb)
      have hv2 := hv1.ke (k7.trans klb)
      generalize upd H7 lb (.lst [w, .int 0]) = H8 at klb glb hw2 hv2 ⊢
      have k68 := k7.trans klb
      refine ⟨hd, ca, p, l, o, [], 1, lb, _, _, none, rfl, sh.ks (k06.trans k68.ks) (hA6.ke k68), by decide, dr.shp, glb, AskR.str0 hw2, fun _ H9 k9 => ⟨rfl, _, rfl, ifNT rfl (stepT ?_)⟩, fun o' os' e => by cases e⟩
      refine ⟨_, rfl, _, rfl, _, rfl, _, rfl, (by show 2 ≤ sizeLine; decide), fun lc hlc => ?_⟩
      have klc : Ke H9 (upd H9 lc (.lst [.int n, v])) := Ke.new hlc
      have glc : (upd H9 lc (.lst [.int n, v])) lc = some (.lst [.int n, v]) := upd_same
      have hv3 := hv2.ke (k9.trans klc)
      generalize upd H9 lc (.lst [.int n, v]) = H10 at klc glc hv3 ⊢
      have k610 := (k68.trans k9).trans klc
      refine ⟨hd, ca, p, l, o, [], 1, lc, _, _, none, rfl, sh.ks (k06.trans k610.ks) (hA6.ke k610), by decide, dr.shp, glc, AskR.str1 hrow (by rw [← lrw]; exact hv3), fun _ H11 k11 => ⟨_, rfl, rfl, _, rfl, ifNT rfl ?_⟩, fun o' os' e => by cases e⟩
      have k611 := k610.trans k11
      refine ⟨_, rfl, _, rfl, hd, ca, p, l, o, [], 4, _, rfl, sh.ks (k06.trans k611.ks) (hA6.ke k611), dr.ro, by decide, by decide, fun H12 k12 => ⟨true, rfl, iteF (stepT ?_)⟩⟩
      have k612 := k611.trans k12
      exact ⟨⟨_, _, _, _, _, _, _, _, _, _, rfl⟩, k06.trans k612.ks, (kb5.trans kla.ks).trans k612.ks, hA6.ke k612⟩
    · refine ⟨_, rfl, rfl, _, rfl, iteF' (fun z => by have := of_decide_eq_true z; cases this) ⟨_, rfl, q, CO, dxo, _, _, rfl, k2.keep _ _ nqh hq, oc.c, oc.n1, offF_s _ _ _ _, zs, _, 2, _, rfl, rfl, SqT.of (k2.tup _ _ hzs), rfl, stepN ?_⟩⟩
      refine ⟨(by show 3 ≤ sizeLine; decide), fun ll hll => ⟨_, rfl, _, _, rfl, rfl, ll, _, _, _, rfl, rfl, SqL.of upd_same, rfl, stepN ?_⟩⟩
      have kl2 : Ke H2 (upd H2 ll (.lst [.str "move", .str "mark", .str "mark"])) := Ke.new hll
      have hA3 := hA2.ke kl2
      have k03 := k2.trans kl2.ks
      have kb3 := kb.trans kl2.ks
      generalize upd H2 ll (.lst [.str "move", .str "mark", .str "mark"]) = H3 at kl2 hA3 k03 kb3 ⊢
      refine ⟨_, rfl, _, rfl, _, rfl, hd, ca, c, q, o, fun a => a = hd, rfl, hA3, ⟨by omega, by omega⟩, rfl, fun a' z => by rw [z]; exact hA3.there.1, nqh, oc, of.ke (Hd.ke k03), isO, fun v H4 k4 hA4 hv => stepN ?_⟩
      refine ⟨_, rfl, _, rfl, _, rfl, hd, ca, (o.mv.length : Int), q, o, fun a => a = hd, rfl, hA4, ⟨by omega, by omega⟩, rfl, fun a' z => by rw [z]; exact hA4.there.1, nqh, oc, of.ke (Hd.ke (k03.trans k4)), isO, fun w H5 k5 hA5 hw => stepN ?_⟩
      have k05 := (k03.trans k4).trans k5
      have kb5 := (kb3.trans k4).trans k5
      have hv5 := hv.ks k5
      refine ⟨_, rfl, _, rfl, _, rfl, _, rfl, (by show 2 ≤ sizeLine; decide), fun la hla => ?_⟩
      have kla : Ke H5 (upd H5 la (.lst [w, v])) := Ke.new hla
      have gla : (upd H5 la (.lst [w, v])) la = some (.lst [w, v]) := upd_same
      have hw1 := hw.v.ke kla
      have hv1 := hv5.v.ke kla
      generalize upd H5 la (.lst [w, v]) = H6 at kla gla hw1 hv1 ⊢
      have k06 := k05.trans kla.ks
      have hA6 := hA5.ke kla
      refine ⟨hd, ca, p, l, o, [], 2, la, _, _, none, rfl, sh.ks k06 hA6, by decide, dr.shp, gla, AskR.shu0 hw1 ez hv1, fun _ H7 k7 => ⟨rfl, _, rfl, ifNT rfl ?_⟩, fun o' os' e => by cases e⟩
      refine ⟨_, rfl, _, rfl, _, rfl, (by show 2 ≤ sizeLine; decide), fun lb hlb => ?_⟩
      have klb : Ke H7 (upd H7 lb (.lst [w, .int 0])) := Ke.new hlb
      have glb : (upd H7 lb (.lst [w, .int 0])) lb = some (.lst [w, .int 0]) := upd_same
      have hw2 := hw1.ke (k7.trans klb)
      have hv2 := hv1.ke (k7.trans klb)
      generalize upd H7 lb (.lst [w, .int 0]) = H8 at klb glb hw2 hv2 ⊢
      have k68 := k7.trans klb
      refine ⟨hd, ca, p, l, o, [], 2, lb, _, _, none, rfl, sh.ks (k06.trans k68.ks) (hA6.ke k68), by decide, dr.shp, glb, AskR.shu0 hw2 ez (isV_int (n := 0) (a := 0) (b := c - 1) ⟨by omega, by omega⟩), fun _ H9 k9 => ⟨rfl, _, rfl, ifNT rfl (stepT ?_)⟩, fun o' os' e => by cases e⟩
      refine ⟨_, rfl, _, rfl, _, rfl, _, rfl, (by show 2 ≤ sizeLine; decide), fun lc hlc => ?_⟩
      have klc : Ke H9 (upd H9 lc (.lst [.int n, v])) := Ke.new hlc
      have glc : (upd H9 lc (.lst [.int n, v])) lc = some (.lst [.int n, v]) := upd_same
      have hv3 := hv2.ke (k9.trans klc)
      generalize upd H9 lc (.lst [.int n, v]) = H10 at klc glc hv3 ⊢
      have k610 := (k68.trans k9).trans klc
      refine ⟨hd, ca, p, l, o, [], 2, lc, _, _, none, rfl, sh.ks (k06.trans k610.ks) (hA6.ke k610), by decide, dr.shp, glc, AskR.shu1 (isV_int ⟨by omega, by omega⟩) ez hv3, fun _ H11 k11 => ⟨_, rfl, rfl, _, rfl, ifNT rfl ?_⟩, fun o' os' e => by cases e⟩
      have k611 := k610.trans k11
      refine ⟨_, rfl, _, rfl, hd, ca, p, l, o, [], 4, _, rfl, sh.ks (k06.trans k611.ks) (hA6.ke k611), dr.ro, by decide, by decide, fun H12 k12 => ⟨true, rfl, iteF (stepT ?_)⟩⟩
      have k612 := k611.trans k12
      exact ⟨⟨_, _, _, _, _, _, _, _, _, _, rfl⟩, k06.trans k612.ks, (kb5.trans kla.ks).trans k612.ks, hA6.ke k612⟩
    · refine ⟨_, rfl, rfl, _, rfl, iteF' (fun z => by have := of_decide_eq_true z; cases this) ⟨_, rfl, q, CO, dxo, _, _, rfl, k2.keep _ _ nqh hq, oc.c, oc.n1, offF_s _ _ _ _, zs, _, 2, _, rfl, rfl, SqT.of (k2.tup _ _ hzs), rfl, stepN ?_⟩⟩
      refine ⟨(by show 3 ≤ sizeLine; decide), fun ll hll => ⟨_, rfl, _, _, rfl, rfl, ll, _, _, _, rfl, rfl, SqL.of upd_same, rfl, stepN ?_⟩⟩
      have kl2 : Ke H2 (upd H2 ll (.lst [.str "move", .str "mark", .str "mark"])) := Ke.new hll
      have hA3 := hA2.ke kl2
      have k03 := k2.trans kl2.ks
      have kb3 := kb.trans kl2.ks
      generalize upd H2 ll (.lst [.str "move", .str "mark", .str "mark"]) = H3 at kl2 hA3 k03 kb3 ⊢
      refine ⟨_, rfl, _, rfl, _, rfl, hd, ca, c, q, o, fun a => a = hd, rfl, hA3, ⟨by omega, by omega⟩, rfl, fun a' z => by rw [z]; exact hA3.there.1, nqh, oc, of.ke (Hd.ke k03), isO, fun v H4 k4 hA4 hv => stepN ?_⟩
      refine ⟨_, rfl, _, rfl, _, rfl, hd, ca, (o.mv.length : Int), q, o, fun a => a = hd, rfl, hA4, ⟨by omega, by omega⟩, rfl, fun a' z => by rw [z]; exact hA4.there.1, nqh, oc, of.ke (Hd.ke (k03.trans k4)), isO, fun w H5 k5 hA5 hw => stepN ?_⟩
      have k05 := (k03.trans k4).trans k5
      have kb5 := (kb3.trans k4).trans k5
      have hv5 := hv.ks k5
      refine ⟨_, rfl, _, rfl, _, rfl, _, rfl, (by show 2 ≤ sizeLine; decide), fun la hla => ?_⟩
      have kla : Ke H5 (upd H5 la (.lst [w, v])) := Ke.new hla
      have gla : (upd H5 la (.lst [w, v])) la = some (.lst [w, v]) := upd_same
      have hw1 := hw.v.ke kla
      have hv1 := hv5.v.ke kla
      generalize upd H5 la (.lst [w, v]) = H6 at kla gla hw1 hv1 ⊢
      have k06 := k05.trans kla.ks
      have hA6 := hA5.ke kla
      refine ⟨hd, ca, p, l, o, [], 3, la, _, _, none, rfl, sh.ks k06 hA6, by decide, dr.shp, gla, AskR.shn0 hw1 ez hv1, fun _ H7 k7 => ⟨rfl, _, rfl, ifNT rfl ?_⟩, fun o' os' e => by cases e⟩
      refine ⟨_, rfl, _, rfl, _, rfl, (by show 2 ≤ sizeLine; decide), fun lb hlb => ?_⟩
      have klb : Ke H7 (upd H7 lb (.lst [w, .int 0])) := Ke.new hlb
      have glb : (upd H7 lb (.lst [w, .int 0])) lb = some (.lst [w, .int 0]) := upd_same
      have hw2 := hw1.ke (k7.trans klb)
      have hv2 := hv1.ke (k7.trans klb)
      generalize upd H7 lb (.lst [w, .int 0]) = H8 at klb glb hw2 hv2 ⊢
      have k68 := k7.trans klb
      refine ⟨hd, ca, p, l, o, [], 3, lb, _, _, none, rfl, sh.ks (k06.trans k68.ks) (hA6.ke k68), by decide, dr.shp, glb, AskR.shn0 hw2 ez (isV_int (n := 0) (a := 0) (b := c - 1) ⟨by omega, by omega⟩), fun _ H9 k9 => ⟨rfl, _, rfl, ifNT rfl (stepT ?_)⟩, fun o' os' e => by cases e⟩
      refine ⟨_, rfl, _, rfl, _, rfl, _, rfl, (by show 2 ≤ sizeLine; decide), fun lc hlc => ?_⟩
      have klc : Ke H9 (upd H9 lc (.lst [.int n, v])) := Ke.new hlc
      have glc : (upd H9 lc (.lst [.int n, v])) lc = some (.lst [.int n, v]) := upd_same
      have hv3 := hv2.ke (k9.trans klc)
      generalize upd H9 lc (.lst [.int n, v]) = H10 at klc glc hv3 ⊢
      have k610 := (k68.trans k9).trans klc
      have nomem : ∀ (n' : Nat) (k' : Int) (row' : List Int), V.int n = V.int n' → v = .int k' → o.cl[n']? = some row' → k' ∉ row' := fun n' k' row' _ e1 hr' hmem => by
        obtain ⟨a', b', c', e, m1, m2⟩ := (dr.g.c.2 row' (List.mem_of_getElem? hr')).1 k' hmem
        rw [ez] at e
        obtain ⟨rfl, rfl, rfl⟩ : a = a' ∧ b = b' ∧ c = c' := by simpa using e
        subst e1
        exact isV_no hv3 ⟨m1, m2⟩
      refine ⟨hd, ca, p, l, o, [], 3, lc, _, _, none, rfl, sh.ks (k06.trans k610.ks) (hA6.ke k610), by decide, dr.shp, glc, AskR.shn1 (isV_int ⟨by omega, by omega⟩) ez hv3 nomem, fun _ H11 k11 => ⟨_, rfl, rfl, _, rfl, ifNT rfl ?_⟩, fun o' os' e => by cases e⟩
      have k611 := k610.trans k11
      refine ⟨_, rfl, _, rfl, hd, ca, p, l, o, [], 4, _, rfl, sh.ks (k06.trans k611.ks) (hA6.ke k611), dr.ro, by decide, by decide, fun H12 k12 => ⟨true, rfl, iteF (stepT ?_)⟩⟩
      have k612 := k611.trans k12
      exact ⟨⟨_, _, _, _, _, _, _, _, _, _, rfl⟩, k06.trans k612.ks, (kb5.trans kla.ks).trans k612.ks, hA6.ke k612⟩
  · rintro σ H2 ⟨⟨t12, t13, t14, t15, t16, t17, t18, t19, t20, t21, rfl⟩, k2, _, hA2⟩
    clear kk1 hkl nk
    -- marks that are let, and others
    refine ⟨_, rfl, q, CO, dxo, _, _, rfl, k2.keep _ _ nqh hq, oc.c, oc.n1, offF_s _ _ _ _, zs, _, 2, _, rfl, rfl, SqT.of (k2.tup _ _ hzs), rfl, c, rfl, by omega, by omega, for_range (n := c.toNat) (fun i σ H' => (∃ t12 t13 t14 t15 t16 t17 t18 t19 t20 t21, σ = [some (.ref hd), some (.ref p), some (.ref q), some (.int o.mv.length), some (.str (enc3 o).shown), some (.int n), t6, t7, t8, t9, t10, t11, t12, t13, t14, t15, t16, t17, t18, t19, t20, t21]) ∧ Ks (fun a => a = hd) H H' ∧ HandAt H' hd ca) ⟨⟨_, _, _, _, _, _, _, _, _, _, rfl⟩, k2, hA2⟩ ?_ ?_⟩
    · rintro i σ H3 hi ⟨⟨t12, t13, t14, t15, t16, t17, t18, t19, t20, t21, rfl⟩, k3, hA3⟩
      refine ⟨_, rfl, _, rfl, q, CO, dxo, _, _, rfl, k3.keep _ _ nqh hq, oc.c, oc.n3, offF_c _ _ _ _, _, rfl, cm, cs, n, _, rfl, rfl, SqT.of (k3.tup _ _ hcm), icv, cra, _, rfl, .inr (SqT.of (k3.tup _ _ hcra)), rfl, flat_int _, _, rfl, ?_⟩
      rw [inV_int]
      by_cases cc : (0 + (i : Int)) ∈ cro
      · refine ifT cc ?_
        refine ⟨_, rfl, _, rfl, _, rfl, (by show 2 ≤ sizeLine; decide), fun la hla => ?_⟩
        have kla : Ke H3 (upd H3 la (.lst [.int n, .int (0 + (i : Int))])) := Ke.new hla
        exact ⟨hd, ca, p, l, o, [], 2, la, _, "closings", rfl, (sh.ks k3 hA3).ke kla, by decide, dr.shp, upd_same, .inr (.inl ⟨rfl, n, _, cro, a, b, c, rfl, hcro, hn, ez, ⟨by omega, by omega⟩, bad_clos dr hcro cc⟩), fun H4 k4 => ⟨rfl, _, rfl, ifNT rfl (stepT ⟨⟨_, _, _, _, _, _, _, _, _, _, rfl⟩, (k3.trans kla.ks).trans k4.ks, (hA3.ke kla).ke k4⟩)⟩⟩
      · refine ifF cc ?_
        refine ⟨_, rfl, _, rfl, _, rfl, (by show 2 ≤ sizeLine; decide), fun la hla => ?_⟩
        have kla : Ke H3 (upd H3 la (.lst [.int n, .int (0 + (i : Int))])) := Ke.new hla
        refine ⟨hd, ca, p, l, o, [], 3, la, _, "mark", none, rfl, (sh.ks k3 hA3).ke kla, by decide, dr.shp, upd_same, .shn1 (isV_int ⟨by omega, by omega⟩) ez (isV_int (a := 0) (b := c - 1) ⟨by omega, by omega⟩) (fun n' k' row' e0 e1 hr' hmem => ?_), fun _ H4 k4 => ⟨rfl, _, rfl, ifNT rfl (stepT ⟨⟨_, _, _, _, _, _, _, _, _, _, rfl⟩, (k3.trans kla.ks).trans k4.ks, (hA3.ke kla).ke k4⟩)⟩, fun o' os' e => by cases e⟩
        have en : n' = n := by injection e0 with e0; omega
        have ek : k' = 0 + (i : Int) := by injection e1 with e1; exact e1.symm
        subst en ek
        rw [hcro] at hr'
        obtain rfl := Option.some.inj hr'
        exact cc hmem
    · rintro σ H3 ⟨⟨t12, t13, t14, t15, t16, t17, t18, t19, t20, t21, rfl⟩, k3, hA3⟩
      -- moves that stand there
      refine ⟨_, rfl, q, CO, dxo, _, _, rfl, k3.keep _ _ nqh hq, oc.c, oc.n2, offF_m _ _ _ _, _, rfl, mm, ms, n, _, rfl, rfl, SqT.of (k3.tup _ _ hmm), irv, ra, rfl, ⟨_, SqT.of (k3.tup _ _ hra)⟩, fo_T (R := TI H) (fun d σ H' => (∃ t12 t13 t14 t15 t16 t17 t18 t19 t20 t21, σ = [some (.ref hd), some (.ref p), some (.ref q), some (.int o.mv.length), some (.str (enc3 o).shown), some (.int n), t6, t7, t8, t9, t10, t11, t12, t13, t14, t15, t16, t17, t18, t19, t20, t21]) ∧ Ks (fun a => a = hd) H H' ∧ HandAt H' hd ca) prw ⟨⟨_, _, _, _, _, _, _, _, _, _, rfl⟩, k3, hA3⟩ (fun d σ H' x => x.2.1.tup _ _ hra) ?_ ?_⟩
      · rintro d m r v σ H4 e ⟨ma, rfl, hma⟩ ⟨⟨t12, t13, t14, t15, t16, t17, t18, t19, t20, t21, rfl⟩, k4, hA4⟩
        have hmem : m ∈ row := by rw [e]; simp
        obtain ⟨a', b', c', x, y, z, g, e', rfl, m1, m2, m3, m4, m5⟩ := (dr.rows row (List.mem_of_getElem? hrow)).1.1 m hmem
        rw [ez] at e'
        obtain ⟨rfl, rfl, rfl⟩ : a = a' ∧ b = b' ∧ c = c' := by simpa using e'
        refine ⟨_, rfl, _, rfl, (by show 1 ≤ sizeLine; decide), fun la hla => ⟨_, rfl, ma, _, rfl, .inr (SqT.of ((Ke.new hla).at (k4.tup _ _ hma))), fun lb hlb => ⟨la, lb, _, _, rfl, rfl, (Ke.new hlb).at upd_same, upd_same, (by show 1 + 4 ≤ sizeLine; decide), fun lc hlc => ?_⟩⟩⟩
        have kla : Ke H4 (upd (upd (upd H4 la (.lst [.int n])) lb (.lst ([x, y, z, g].map V.int))) lc (.lst [.int n, .int x, .int y, .int z, .int g])) := ((Ke.new hla).trans (Ke.new hlb)).trans (Ke.new hlc)
        exact ⟨hd, ca, p, l, o, [], 0, lc, _, "moves", rfl, (sh.ks k4 hA4).ke kla, by decide, dr.shp, upd_same, .inl ⟨rfl, n, x, y, z, g, row, a, b, c, rfl, hrow, ez, m1, m2, m3, ⟨m4, m5⟩, bad_mov dr hrow hmem⟩, fun H5 k5 => ⟨rfl, _, rfl, ifNT rfl (stepT ⟨⟨_, _, _, _, _, _, _, _, _, _, rfl⟩, (k4.trans kla.ks).trans k5.ks, (hA4.ke kla).ke k5⟩)⟩⟩
      · rintro σ H4 ⟨⟨t12, t13, t14, t15, t16, t17, t18, t19, t20, t21, rfl⟩, k4, hA4⟩
        -- nothing has come of it
        refine ⟨_, rfl, _, rfl, hd, ca, p, l, o, [], 4, _, rfl, sh.ks k4 hA4, dr.ro, by decide, by decide, fun H5 k5 => ⟨true, rfl, iteT' rfl ?_⟩⟩
        have k05 := k4.trans k5.ks
        have hA5 := hA4.ke k5
        refine ⟨_, rfl, p, dx, _, rfl, k05.keep _ _ sh.n1 hp, rfl, nilA ⟨hd, ca, p, l, o, [], rfl, sh.ks k05 hA5, rfl, true, by rfl, iteT' rfl ?_⟩⟩
        refine ⟨_, rfl, by decide, fun la hla => ?_⟩
        have kla : Ke H5 (upd H5 la (.lst [])) := Ke.new hla
        exact ⟨hd, ca, p, l, o, [], 5, la, _, "nothing", none, rfl, (sh.ks k05 hA5).ke kla, by decide, dr.shp, upd_same, .back0 rfl, fun _ H6 k6 => ⟨rfl, by rw [decide_eq_true rfl]; exact k _ ((k05.trans kla.ks).trans k6.ks) ((hA5.ke kla).ke k6)⟩, fun o' os' e => by cases e⟩
end Fd
set_option Elab.async false
set_option linter.all false
set_option maxRecDepth 100000
set_option maxHeartbeats 4000000
namespace Fd
open PySem PySem.Spec PyProof.Rows L2 RZ PySem.W
section
variable {P : Program} {w : World} {K : PySem.W.Frag} {mg : Str → Option Value} {base : Heap} (T : Txt K mg) (Er : Err P K mg) (Eq : ErrQ Er) (htop : (P.main.scope.names.lookup ("super" : Str)).isSome = false)
include T Er Eq htop
theorem ok_l_bad_ : FnG P w K mg base 11 T.a_l_bad T.d_l_bad P_l_bad (sp_lbad K T.a_Shop T.a_Office) := by
  have ok_l_asked : ∀ _ : Txt K mg, FnOk P w K mg base CX0 10 T.a_l_asked T.d_l_asked P_l_asked (sp_asked K T.a_Shop) := fun _ => Fd.ok_l_asked T Er Eq htop
  have ok_l_part : ∀ _ : Txt K mg, FnOk P w K mg base CX0 10 T.a_l_part T.d_l_part P_l_part (sp_part K T.a_Shop) := fun _ => Fd.ok_l_part T Er Eq htop
  refine fng_of T.F_l_bad sc_l_bad (fun vs H Q E h => ?_) (fun cdv A outer s H vs Q E hgd hr h => ?_)
  · obtain ⟨hd, ca, p, l, q, o, rfl, _⟩ := h; rfl
  · obtain ⟨hd, ca, p, l, q, o, rfl, sh, ⟨dx, hp⟩, of, dr, k⟩ := h
    have hu := hu_of hr
    have eO : Er.a_Office = T.a_Office := by
      have := Er.g_Office.symm.trans T.g_Office
      injection this with this
      injection this
    have isO : ∀ (H' : Hp) (dx : Addr) (fs : List (Str × V)), H' q = some (.ins T.a_Office dx fs) → IsI K H' (.ref q) false := fun H' dx fs e => by
      have o1 := Eq.o1
      have o4 := Eq.o4
      have o5 := Eq.o5
      have o6 := Eq.o6
      rw [eO] at o1 o4 o5 o6
      exact ⟨.ref T.a_Office, false, false, .base (.ins e T.c_Office o1 Eq.o2 Eq.o3 o4), o5, o6, rfl⟩
    have ofh : ∀ {H' : Hp}, Ks (fun a => a = hd) H H' → OfAt T.a_Office (Hd (fun a => a = hd) H') q o := fun kk => (of.ke (Le.ke (Hd.anti fun a z => .inl z))).ke (Hd.ke kk)
    refine ⟨_, (pss_cons (ps_set (i := 2) sc_l_bad.nd rfl (Or.inr rfl) (pe_meth0 (pv 1) T.c_Shop T.t_Shop_office (ok_Shop_office T) (hr.mono (by decide)) T.b_Shop_office .nil pass0))
  (pss_cons (ps_set (i := 3) sc_l_bad.nd rfl (Or.inl rfl) (pe_callB call_len (by rfl) T.n_len (by decide +kernel) (pa_cons (pe_fld (pv 2) rfl) pa_nil)))
  (pss_cons (ps_set (i := 4) sc_l_bad.nd rfl (Or.inl rfl) (pe_callB (cr_reprD hr hgd) (by rfl) T.n_repr (by decide +kernel) (pa_cons (pe_lst (pa_cons (pe_fld (pv 2) rfl) (pa_cons (pe_fld (pv 2) rfl) (pa_cons (pe_fld (pv 2) rfl) pa_nil)))) pa_nil)))
  (pss_cons (ps_set (i := 5) sc_l_bad.nd rfl (Or.inl rfl) (pe_call (ok_l_draw T) (hr.mono (by decide)) rfl T.g_l_draw T.k_l_draw T.b_l_draw .nil pass0 (pa_cons (pv 0) (pa_cons (pv 3) pa_nil))))
  (pss_cons (ps_set (i := 6) sc_l_bad.nd rfl (Or.inl rfl) (pe_op op_cat (pe_lc (own := [("_law_size", 19)]) rfl sc_l_bad.nd (pi_tup (pe_fld (pv 2) rfl)) (blkOk_by (own := [("_law_size", 19)]) (N := N_l_bad) (sc := defScope s_l_bad) (by decide +kernel)) (fun _ _ _ _ _ => (pg_name (i := 19) sc_l_bad.nd rfl (Or.inl rfl))) (fun _ _ _ _ _ => pts_nil) (fun _ _ _ _ _ => (pe_call (ok_l_draw T) (hr.mono (by decide)) rfl T.g_l_draw T.k_l_draw T.b_l_draw .nil pass0 (pa_cons (pv 0) (pa_cons (pv 19) pa_nil))))) (pe_lst (pa_cons (pe_call (ok_l_draw T) (hr.mono (by decide)) rfl T.g_l_draw T.k_l_draw T.b_l_draw .nil pass0 (pa_cons (pv 0) (pa_cons (pv 3) pa_nil))) pa_nil))))
  (pss_cons (ps_set (i := 7) sc_l_bad.nd rfl (Or.inr rfl) (pe_op op_cat (pe_lst (pa_cons (pv 5) pa_nil)) (pv 6)))
  (pss_cons (ps_set (i := 8) sc_l_bad.nd rfl (Or.inr rfl) (pe_op op_cat (pe_op op_cat (pe_lst (pa_cons (pv 3) pa_nil)) (pe_callTy call_list_of (by rfl) T.n_list (by decide +kernel) (pa_cons (pe_fld (pv 2) rfl) pa_nil))) (pe_lst (pa_cons (pv 3) pa_nil))))
  (pss_cons (ps_set (i := 9) sc_l_bad.nd rfl (Or.inr rfl) (pe_lc (own := [("_law_place", 20)]) rfl sc_l_bad.nd (pi_range1 rfl T.n_range (pa_cons pe_int pa_nil)) (blkOk_by (own := [("_law_place", 20)]) (N := N_l_bad) (sc := defScope s_l_bad) (by decide +kernel)) (fun _ _ _ _ _ => (pg_name (i := 20) sc_l_bad.nd rfl (Or.inl rfl))) (fun _ _ _ _ _ => pts_nil) (fun _ _ _ _ _ => (pe_cmpR op_eq (pe_call (ok_l_draw T) (hr.mono (by decide)) rfl T.g_l_draw T.k_l_draw T.b_l_draw .nil pass0 (pa_cons (pv 0) (pa_cons pe_int pa_nil))) pe_int (nomark _)))))
  (pss_cons (ps_setLc (i := 10) (own := [("_law_place", 20)]) rfl sc_l_bad.nd rfl rfl (sw_true rfl rfl rfl (by decide +kernel)) (pi_range1 rfl T.n_range (pa_cons pe_int pa_nil)) (blkOk_by (own := [("_law_place", 20)]) (N := N_l_bad) (sc := defScope s_l_bad) (by decide +kernel)) (fun _ _ _ _ _ => (pg_name (i := 20) sc_l_bad.nd rfl (Or.inl rfl))) (fun _ _ _ _ _ => pts_nil) (fun _ _ _ _ _ => (pe_ifExp (pt_val (pe_ix (ix_listK K rfl) (pv 9) (pv 20) (fun _ _ => rfl))) (pe_call (ok_l_odd T) (hr.mono (by decide)) rfl T.g_l_odd T.k_l_odd T.b_l_odd .nil pass0 (pa_cons (pv 0) (pa_cons (pe_ix (ix_listK K rfl) (pv 8) (pv 20) (fun _ _ => rfl)) (pa_cons (pv 2) pa_nil)))) (pe_ix (ix_listK K rfl) (pv 7) (pv 20) (fun _ _ => rfl)))))
  (pss_cons (ps_setLc (i := 11) (own := [("_law_word", 14), ("_law_flag", 21)]) rfl sc_l_bad.nd rfl rfl (sw_true rfl rfl rfl (by decide +kernel)) (pi_zipA rfl T.n_zip (pa_cons (pe_lst (pa_cons pe_str (pa_cons pe_str (pa_cons pe_str (pa_cons pe_str (pa_cons pe_str pa_nil)))))) (pa_cons (pv 9) pa_nil))) (blkOk_by (own := [("_law_word", 14), ("_law_flag", 21)]) (N := N_l_bad) (sc := defScope s_l_bad) (by decide +kernel)) (fun _ _ _ _ _ => (pg_tupK (n := 2) K rfl rfl (pgs_cons (pg_name (i := 14) sc_l_bad.nd rfl (Or.inl rfl)) (pgs_cons (pg_name (i := 21) sc_l_bad.nd rfl (Or.inl rfl)) pgs_nil)))) (fun _ _ _ _ _ => pts_one (pt_val (pv 21))) (fun _ _ _ _ _ => (pv 14)))
  (pss_cons (ps_if (PW.pt (pw_and (pt_cmpR op_gt (pe_callB call_len (by rfl) T.n_len (by decide +kernel) (pa_cons (pv 11) pa_nil)) pe_int (nomark _)) (pw_and1 (PW.pt (pw_or (pt_cmpR op_ne (pe_call (ok_l_asked T) (hr.mono (by decide)) rfl T.g_l_asked T.k_l_asked T.b_l_asked .nil pass0 (pa_cons pe_int (pa_cons (pv 1) (pa_cons (pv 10) pa_nil)))) (pe_ix ix_list (pv 11) pe_int (fun _ _ => rfl)) (nomark _)) (pw_or1 (pt_not (pt_val (pe_callG (ok_l_kept T) (hr.mono (by decide)) hgd rfl T.g_l_kept T.k_l_kept T.b_l_kept (pa_cons (pv 1) (pa_cons (pv 4) pa_nil))))))))))) (pss_one (ps_ret pe_bl)) pss_nil)
  (pss_cons (ps_for PassesOwn.never rfl (pi_list (pe_lst (pa_cons pe_int (pa_cons pe_int (pa_cons pe_int pa_nil))))) (pg_name (i := 12) sc_l_bad.nd rfl (Or.inl rfl)) (pss_cons (ps_set (i := 13) sc_l_bad.nd rfl (Or.inl rfl) (pe_ifExp (pt_cmpR op_eq (pv 12) pe_int (nomark _)) (pe_callB call_len (by rfl) T.n_len (by decide +kernel) (pa_cons (pe_ix ix_tup (pe_fld (pv 2) rfl) (pv 5) (fun _ _ => rfl)) pa_nil)) (pe_ix ix_tup (pe_fld (pv 2) rfl) pe_int (fun _ _ => rfl))))
  (pss_cons (ps_set (i := 14) sc_l_bad.nd rfl (Or.inl rfl) (pe_ix ix_list (pe_lst (pa_cons pe_str (pa_cons pe_str (pa_cons pe_str pa_nil)))) (pe_op op_sub (pv 12) pe_int) (fun _ _ => rfl)))
  (pss_cons (ps_set (i := 15) sc_l_bad.nd rfl (Or.inl rfl) (pe_call (ok_l_odd T) (hr.mono (by decide)) rfl T.g_l_odd T.k_l_odd T.b_l_odd .nil pass0 (pa_cons (pv 0) (pa_cons (pv 13) (pa_cons (pv 2) pa_nil)))))
  (pss_cons (ps_set (i := 16) sc_l_bad.nd rfl (Or.inl rfl) (pe_call (ok_l_odd T) (hr.mono (by decide)) rfl T.g_l_odd T.k_l_odd T.b_l_odd .nil pass0 (pa_cons (pv 0) (pa_cons (pv 3) (pa_cons (pv 2) pa_nil)))))
  (pss_cons (ps_if (PW.pt (pw_or (pt_cmpR op_ne (pe_call (ok_l_asked T) (hr.mono (by decide)) rfl T.g_l_asked T.k_l_asked T.b_l_asked .nil pass0 (pa_cons (pv 12) (pa_cons (pv 1) (pa_cons (pe_lst (pa_cons (pv 16) (pa_cons (pv 15) pa_nil))) pa_nil)))) pe_str (nomark _)) (pw_or1 (pt_cmpR op_ne (pe_call (ok_l_asked T) (hr.mono (by decide)) rfl T.g_l_asked T.k_l_asked T.b_l_asked .nil pass0 (pa_cons (pv 12) (pa_cons (pv 1) (pa_cons (pe_lst (pa_cons (pv 16) (pa_cons pe_int pa_nil))) pa_nil)))) pe_str (nomark _))))) (pss_one (ps_ret pe_bl)) pss_nil)
  (pss_one (ps_if (PW.pt (pw_or (pt_cmpR op_ne (pe_call (ok_l_asked T) (hr.mono (by decide)) rfl T.g_l_asked T.k_l_asked T.b_l_asked .nil pass0 (pa_cons (pv 12) (pa_cons (pv 1) (pa_cons (pe_lst (pa_cons (pv 5) (pa_cons (pv 15) pa_nil))) pa_nil)))) (pv 14) (nomark _)) (pw_or1 (pt_not (pt_val (pe_callG (ok_l_kept T) (hr.mono (by decide)) hgd rfl T.g_l_kept T.k_l_kept T.b_l_kept (pa_cons (pv 1) (pa_cons (pv 4) pa_nil)))))))) (pss_one (ps_ret pe_bl)) pss_nil))))))))
  (pss_cons (ps_for PassesOwn.never rfl (pi_range1 rfl T.n_range (pa_cons (pe_ix ix_tup (pe_fld (pv 2) rfl) pe_int (fun _ _ => rfl)) pa_nil)) (pg_name (i := 17) sc_l_bad.nd rfl (Or.inl rfl)) (pss_one (ps_if (pt_cmpR op_in_seq (pv 17) (pe_ix ix_tup (pe_fld (pv 2) rfl) (pv 5) (fun _ _ => rfl)) rfl) (pss_one (ps_if (pt_cmpR op_ne (pe_call (ok_l_part T) (hr.mono (by decide)) rfl T.g_l_part T.k_l_part T.b_l_part .nil pass0 (pa_cons pe_int (pa_cons (pv 1) (pa_cons (pe_lst (pa_cons (pv 5) (pa_cons (pv 17) pa_nil))) pa_nil)))) pe_str (nomark _)) (pss_one (ps_ret pe_bl)) pss_nil)) (pss_one (ps_if (pt_cmpR op_ne (pe_call (ok_l_asked T) (hr.mono (by decide)) rfl T.g_l_asked T.k_l_asked T.b_l_asked .nil pass0 (pa_cons pe_int (pa_cons (pv 1) (pa_cons (pe_lst (pa_cons (pv 5) (pa_cons (pv 17) pa_nil))) pa_nil)))) pe_str (nomark _)) (pss_one (ps_ret pe_bl)) pss_nil)))))
  (pss_cons (ps_for PassesOwn.never rfl (pi_tup (pe_ix ix_tup (pe_fld (pv 2) rfl) (pv 5) (fun _ _ => rfl))) (pg_name (i := 18) sc_l_bad.nd rfl (Or.inl rfl)) (pss_one (ps_if (pt_cmpR op_ne (pe_call (ok_l_part T) (hr.mono (by decide)) rfl T.g_l_part T.k_l_part T.b_l_part .nil pass0 (pa_cons pe_int (pa_cons (pv 1) (pa_cons (pe_op op_cat (pe_lst (pa_cons (pv 5) pa_nil)) (pe_callTy call_list_of (by rfl) T.n_list (by decide +kernel) (pa_cons (pv 18) pa_nil))) pa_nil)))) pe_str (nomark _)) (pss_one (ps_ret pe_bl)) pss_nil)))
  (pss_one (ps_ret (pe_and (pe_callG (ok_l_kept T) (hr.mono (by decide)) hgd rfl T.g_l_kept T.k_l_kept T.b_l_kept (pa_cons (pv 1) (pa_cons (pv 4) pa_nil))) (pe_and (pe_cmpR op_eq (pe_meth0 (pv 1) T.c_Shop T.t_Shop_depth (ok_Shop_depth T) (hr.mono (by decide)) T.b_Shop_depth .nil pass0) pe_int (nomark _)) (pe_one (pe_cmpR op_eq (pe_call (ok_l_asked T) (hr.mono (by decide)) rfl T.g_l_asked T.k_l_asked T.b_l_asked .nil pass0 (pa_cons pe_int (pa_cons (pv 1) (pa_cons (pe_lst pa_nil) pa_nil)))) pe_str (nomark _))))))))))))))))))))), ?_⟩
    refine ⟨_, rfl, p, dx, _, rfl, hp, rfl, nilA ⟨hd, ca, p, l, o, [], rfl, sh, fun dx2 q2 hp2 _ => stepN ?_⟩⟩
    obtain rfl := shq (K := K) hp hp2
    dsimp only
    have oc := T.oc
    obtain ⟨dxo, vs, vm, vc, lk, ds, hq0, hz0, hm0, hc0, _, _⟩ := of.ex
    obtain ⟨nq, hq⟩ := Hd.at hq0
    have le : Tx (Hd (S3 hd p l) H) H := (Le.ke Hd.le).tx
    have hz := TI.stb _ _ _ _ le hz0
    have hm := TT.stb (TT.stb TI.stb) _ _ _ _ le hm0
    have hc := TT.stb TI.stb _ _ _ _ le hc0
    have nqh : q ≠ hd := fun z => nq (.inl z)
    obtain ⟨a, b, c, ez, ha, hb, hcc⟩ := dr.sz
    obtain ⟨zs, rfl, hzs⟩ := id hz
    rw [ez] at hzs
    obtain ⟨mm, ms, rfl, hmm, pm⟩ := id hm
    obtain ⟨cm, cs, rfl, hcm, pc⟩ := id hc
    have lm := plen pm
    have n1 := dr.g.m.1
    have n5 := dr.n5
    have lcl := dr.shp.cl
    have hA := sh.hA
    refine ⟨_, rfl, q, _, dxo, _, _, rfl, hq, oc.c, oc.n2, offF_m _ _ _ _, .ref mm, _, rfl, .inr ⟨_, SqT.of hmm, rfl⟩, stepN ?_⟩
    dsimp only
    rw [lm]
    refine ⟨_, rfl, q, _, dxo, _, _, rfl, hq, oc.c, oc.n1, offF_s _ _ _ _, _, rfl, q, _, dxo, _, _, rfl, hq, oc.c, oc.n2, offF_m _ _ _ _, _, rfl, q, _, dxo, _, _, rfl, hq, oc.c, oc.n3, offF_c _ _ _ _, (by show 3 ≤ sizeLine; decide), fun l1 hl1 => ?_⟩
    have k1 : Ke H (upd H l1 (.lst [.ref zs, .ref mm, .ref cm])) := Ke.new hl1
    refine nilA (repr3 upd_same (TI.stb _ _ _ _ k1.tx hz) (TT.stb (TT.stb TI.stb) _ _ _ _ k1.tx hm) (TT.stb TI.stb _ _ _ _ k1.tx hc) dr.ro (by decide) (by decide) (stepN ?_))
    have hA1 := hA.ke k1
    generalize upd H l1 (.lst [.ref zs, .ref mm, .ref cm]) = H1 at k1 hA1 ⊢
    dsimp only
    refine ⟨_, rfl, _, rfl, hd, ca, _, rfl, hA1, ⟨by omega, by omega⟩, fun at_ H2 at0' at1' k2 hA2 => stepN ?_⟩
    obtain ⟨n, rfl⟩ : ∃ n : Nat, at_ = (n : Int) := ⟨at_.toNat, by omega⟩
    dsimp only
    have k02 : Ks (fun a => a = hd) H H2 := k1.ks.trans k2
    -- the move
    refine ⟨_, rfl, q, _, dxo, _, _, rfl, k02.keep _ _ nqh hq, oc.c, oc.n1, offF_s _ _ _ _, zs, rfl, ⟨_, SqT.of (k02.tup _ _ hzs)⟩, fun D hD => ?_⟩
    have nD1 : D ≠ hd := fun z => hA2.there.1 (by rw [← z]; exact hD)
    have nD2 : D ≠ ca := fun z => hA2.there.2 (by rw [← z]; exact hD)
    refine lw_T (R := II H2) (fun d H' => Ks (fun a => a = hd) H2 H' ∧ HandAt H' hd ca ∧ ∃ xs : List Int, H' D = some (.lst (xs.map V.int)) ∧ Paired (fun x s => 0 ≤ x ∧ x < s) xs d) (pmap_int [a, b, c]) ⟨(Ke.new hD).ks, hA2.ke (Ke.new hD), [], upd_same, .nil⟩ (fun d H' x => x.1.tup _ _ (k02.tup _ _ hzs)) ?_ ?_
    · rintro d x r v H3 e rfl ⟨k3, hA3, xs, hD3, px⟩
      have hx4 : 1 ≤ x ∧ x ≤ 4 := by
        have : x ∈ [a, b, c] := by rw [e]; simp
        simp only [List.mem_cons, List.mem_nil_iff, or_false] at this
        rcases this with rfl | rfl | rfl <;> omega
      have lx := plen px
      have ld : d.length ≤ 3 := by have := congrArg List.length e; simp at this; omega
      refine ⟨rfl, _, rfl, _, rfl, hd, ca, x, rfl, hA3, ⟨by omega, by omega⟩, fun y H4 y0 y1 k4 hA4 => ⟨_, k4.keep _ _ nD1 hD3, by rw [List.length_map, sizeLine_eq]; omega, (k3.trans k4).mutNew hD, hA4.mut nD1 nD2, xs ++ [y], by rw [upd_same]; simp, papp px (.cons ⟨y0, y1⟩ .nil)⟩⟩
    · rintro H3 ⟨k3, hA3, xs, hD3, px⟩
      obtain ⟨x, y, z, rfl, hx, hy, hzz⟩ : ∃ x y z, xs = [x, y, z] ∧ (0 ≤ x ∧ x < a) ∧ (0 ≤ y ∧ y < b) ∧ 0 ≤ z ∧ z < c := by
        cases px with
        | cons h1 px =>
          cases px with
          | cons h2 px =>
            cases px with
            | cons h3 px =>
              cases px
              exact ⟨_, _, _, rfl, h1, h2, h3⟩
      refine ⟨_, rfl, _, rfl, hd, ca, _, rfl, hA3, ⟨by omega, by omega⟩, fun g H4 g0 g1 k4 hA4 => ⟨(by show 1 ≤ sizeLine; decide), fun l2 hl2 => ?_⟩⟩
      have hD4 := k4.keep _ _ nD1 hD3
      refine ⟨D, l2, _, _, rfl, rfl, (Ke.new hl2).at hD4, upd_same, (by show 3 + 1 ≤ sizeLine; decide), fun l3 hl3 => stepN ?_⟩
      dsimp only
      have k5 : Ke H4 (upd (upd H4 l2 (.lst [.int g])) l3 (.lst [.int x, .int y, .int z, .int g])) := (Ke.new hl2).trans (Ke.new hl3)
      have hl5 : (upd (upd H4 l2 (.lst [.int g])) l3 (.lst [.int x, .int y, .int z, .int g])) l3 = some (.lst [.int x, .int y, .int z, .int g]) := upd_same
      have hA5 := hA4.ke k5
      have k05 : Ks (fun a => a = hd) H (upd (upd H4 l2 (.lst [.int g])) l3 (.lst [.int x, .int y, .int z, .int g])) := ((k02.trans k3).trans k4).trans k5.ks
      show tSeq _ _ _ _ (upd (upd H4 l2 (.lst [.int g])) l3 (.lst [.int x, .int y, .int z, .int g]))
      generalize upd (upd H4 l2 (.lst [.int g])) l3 (.lst [.int x, .int y, .int z, .int g]) = H5 at hl5 hA5 k05 ⊢
      clear k5 hD4 hD3 k4 hA4 k3 hA3 hD nD1 nD2 hA2 k02 k2 hA1 k1
      -- the right ones
      refine ⟨_, rfl, (by show 1 ≤ sizeLine; decide), fun l4 hl4 => ⟨_, rfl, l4, l3, _, _, rfl, rfl, upd_same, (Ke.new hl4).at hl5, (by show 1 + 4 ≤ sizeLine; decide), fun l5 hl5' => stepN ?_⟩⟩
      dsimp only
      have k6 : Ke H5 (upd (upd H5 l4 (.lst [.int (n : Int)])) l5 (.lst [.int (n : Int), .int x, .int y, .int z, .int g])) := (Ke.new hl4).trans (Ke.new hl5')
      have hR6 : (upd (upd H5 l4 (.lst [.int (n : Int)])) l5 (.lst [.int (n : Int), .int x, .int y, .int z, .int g])) l5 = some (.lst ([(n : Int), x, y, z, g].map V.int)) := upd_same
      have hA6 := hA5.ke k6
      have k06 := k05.trans k6.ks
      have nR : l5 ≠ hd := fun z => (hA5.ke (Ke.new hl4)).there.1 (by rw [← z]; exact hl5')
      show tSeq _ _ _ _ (upd (upd H5 l4 (.lst [.int (n : Int)])) l5 (.lst [.int (n : Int), .int x, .int y, .int z, .int g]))
      generalize upd (upd H5 l4 (.lst [.int (n : Int)])) l5 (.lst [.int (n : Int), .int x, .int y, .int z, .int g]) = H6 at k6 hR6 hA6 k06 ⊢
      -- the limits
      refine ⟨_, rfl, (by show 1 ≤ sizeLine; decide), fun l6 hl6 => ⟨_, rfl, q, _, dxo, _, _, rfl, (Ke.new hl6).at (k06.keep _ _ nqh hq), oc.c, oc.n1, offF_s _ _ _ _, zs, _, rfl, .inr (SqT.of ((Ke.new hl6).at (k06.tup _ _ hzs))), fun l7 hl7 => ⟨l6, l7, _, _, rfl, rfl, (Ke.new hl7).at upd_same, upd_same, (by show 1 + 3 ≤ sizeLine; decide), fun l8 hl8 => ⟨_, rfl, (by show 1 ≤ sizeLine; decide), fun l9 hl9 => ⟨l8, l9, _, _, rfl, rfl, (Ke.new hl9).at upd_same, upd_same, (by show 4 + 1 ≤ sizeLine; decide), fun l10 hl10 => stepN ?_⟩⟩⟩⟩⟩
      dsimp only
      have k7 : Ke H6 (upd (upd (upd (upd (upd H6 l6 (.lst [.int (o.mv.length : Int)])) l7 (.lst [.int a, .int b, .int c])) l8 (.lst [.int (o.mv.length : Int), .int a, .int b, .int c])) l9 (.lst [.int (o.mv.length : Int)])) l10 (.lst [.int (o.mv.length : Int), .int a, .int b, .int c, .int (o.mv.length : Int)])) := ((((Ke.new hl6).trans (Ke.new hl7)).trans (Ke.new hl8)).trans (Ke.new hl9)).trans (Ke.new hl10)
      have hL7 : (upd (upd (upd (upd (upd H6 l6 (.lst [.int (o.mv.length : Int)])) l7 (.lst [.int a, .int b, .int c])) l8 (.lst [.int (o.mv.length : Int), .int a, .int b, .int c])) l9 (.lst [.int (o.mv.length : Int)])) l10 (.lst [.int (o.mv.length : Int), .int a, .int b, .int c, .int (o.mv.length : Int)])) l10 = some (.lst ([(o.mv.length : Int), a, b, c, (o.mv.length : Int)].map V.int)) := upd_same
      show tSeq _ _ _ _ (upd (upd (upd (upd (upd H6 l6 (.lst [.int (o.mv.length : Int)])) l7 (.lst [.int a, .int b, .int c])) l8 (.lst [.int (o.mv.length : Int), .int a, .int b, .int c])) l9 (.lst [.int (o.mv.length : Int)])) l10 (.lst [.int (o.mv.length : Int), .int a, .int b, .int c, .int (o.mv.length : Int)]))
      have nL : l10 ≠ hd := fun z => by
        have h6 : H6 l10 = none := (((Ke.new hl6).trans (Ke.new hl7)).trans ((Ke.new hl8).trans (Ke.new hl9))).free hl10
        exact hA6.there.1 (by rw [← z]; exact h6)
      have hA7 := hA6.ke k7
      generalize upd (upd (upd (upd (upd H6 l6 (.lst [.int (o.mv.length : Int)])) l7 (.lst [.int a, .int b, .int c])) l8 (.lst [.int (o.mv.length : Int), .int a, .int b, .int c])) l9 (.lst [.int (o.mv.length : Int)])) l10 (.lst [.int (o.mv.length : Int), .int a, .int b, .int c, .int (o.mv.length : Int)]) = H7 at k7 hL7 hA7 ⊢
      have hR7 := k7.at hR6
      have k07 := k06.trans k7.ks
      clear hl6 hl7 hl8 hl9 hl10 k6 k7 hA6 hR6 k06 hA5 hl5 k05
      -- what is wrong
      refine ⟨5, rfl, by decide, by decide, fun D1 hD1 => ?_⟩
      have d1 : D1 ≠ hd := fun z => hA7.there.1 (by rw [← z]; exact hD1)
      have d2 : D1 ≠ ca := fun z => hA7.there.2 (by rw [← z]; exact hD1)
      refine lw_range (n := 5) (fun j H' => Ks (fun a => a = hd) H7 H' ∧ HandAt H' hd ca ∧ ∃ bs : List Bool, H' D1 = some (.lst (bs.map V.bl)) ∧ bs.length = j) ⟨(Ke.new hD1).ks, hA7.ke (Ke.new hD1), [], upd_same, rfl⟩ ?_ ?_
      · rintro j H8 hj ⟨k8, hA8, bs, hD8, lb⟩
        refine ⟨rfl, _, rfl, hd, ca, 3, rfl, hA8, ⟨by decide, by decide⟩, fun r H9 _ _ k9 hA9 => ⟨rfl, _, k9.keep _ _ d1 hD8, by rw [List.length_map, sizeLine_eq]; omega, (k8.trans k9).mutNew hD1, hA9.mut d1 d2, bs ++ [decide (V.int r = V.int 0)], by rw [upd_same]; simp, by rw [List.length_append, lb]; rfl⟩⟩
      · rintro H8 ⟨k8, hA8, bs, hD8, lb⟩
        refine stepN ?_
        dsimp only
        have k08 := k07.trans k8
        have hR8 := k8.keep _ _ nR hR7
        have hL8 := k8.keep _ _ nL hL7
        -- the things
        refine ⟨5, rfl, by decide, by decide, fun D2 hD2 => ?_⟩
        have e1 : D2 ≠ hd := fun z => hA8.there.1 (by rw [← z]; exact hD2)
        have e2 : D2 ≠ ca := fun z => hA8.there.2 (by rw [← z]; exact hD2)
        refine lw_range (n := 5) (fun j H' => Ks (fun a => a = hd) H8 H' ∧ HandAt H' hd ca ∧ ∃ ws : List V, H' D2 = some (.lst ws) ∧ Thg (fun a => a = hd ∨ a = D2) K H' [(o.mv.length : Int), a, b, c, (o.mv.length : Int)] [(n : Int), x, y, z, g] bs ws j) ⟨(Ke.new hD2).ks, hA8.ke (Ke.new hD2), [], upd_same, rfl, (fun i hi => by omega)⟩ ?_ ?_
        · rintro j H9 hj ⟨k9, hA9, ws, hD9, th⟩
          obtain ⟨bj, hbj⟩ : ∃ v, bs[j]? = some v := ⟨_, List.getElem?_eq_getElem (by omega)⟩
          have hbd : bs.getD j false = bj := by rw [List.getD_eq_getElem?_getD, hbj]; rfl
          have hLj : [(o.mv.length : Int), a, b, c, (o.mv.length : Int)][j]? = some ([(o.mv.length : Int), a, b, c, (o.mv.length : Int)].getD j 0) := by
            rw [List.getD_eq_getElem?_getD, List.getElem?_eq_getElem (by simpa using hj)]; rfl
          have hRj : [(n : Int), x, y, z, g][j]? = some ([(n : Int), x, y, z, g].getD j 0) := by
            rw [List.getD_eq_getElem?_getD, List.getElem?_eq_getElem (by simpa using hj)]; rfl
          have hlim : 1 ≤ [(o.mv.length : Int), a, b, c, (o.mv.length : Int)].getD j 0 ∧ [(o.mv.length : Int), a, b, c, (o.mv.length : Int)].getD j 0 ≤ 1000 ∧ 0 ≤ [(n : Int), x, y, z, g].getD j 0 ∧ [(n : Int), x, y, z, g].getD j 0 < [(o.mv.length : Int), a, b, c, (o.mv.length : Int)].getD j 0 := by
            rcases (by omega : j = 0 ∨ j = 1 ∨ j = 2 ∨ j = 3 ∨ j = 4) with rfl | rfl | rfl | rfl | rfl
            · show 1 ≤ (o.mv.length : Int) ∧ (o.mv.length : Int) ≤ 1000 ∧ 0 ≤ (n : Int) ∧ (n : Int) < (o.mv.length : Int); omega
            · show 1 ≤ a ∧ a ≤ 1000 ∧ 0 ≤ x ∧ x < a; omega
            · show 1 ≤ b ∧ b ≤ 1000 ∧ 0 ≤ y ∧ y < b; omega
            · show 1 ≤ c ∧ c ≤ 1000 ∧ 0 ≤ z ∧ z < c; omega
            · show 1 ≤ (o.mv.length : Int) ∧ (o.mv.length : Int) ≤ 1000 ∧ 0 ≤ g ∧ g < (o.mv.length : Int); omega
          have g9 := k9.keep _ _ d1 hD8
          refine ⟨rfl, _, rfl, _, rfl, D1, _, _, _, rfl, rfl, SqL.of g9, atI_nat (i := j) (x := .bl bj) (by rw [List.getElem?_map, hbj]; rfl) (Int.zero_add _), bj, rfl, ?_⟩
          cases bj with
          | true =>
            refine iteT' rfl ⟨_, rfl, _, rfl, _, rfl, l10, _, _, _, rfl, rfl, SqL.of (k9.keep _ _ nL hL8), atI_nat (i := j) (x := .int ([(o.mv.length : Int), a, b, c, (o.mv.length : Int)].getD j 0)) (by rw [List.getElem?_map, hLj]; rfl) (Int.zero_add _), _, rfl, hd, ca, _, q, o, fun a => a = hd ∨ a = D2, rfl, hA9, ⟨by omega, by omega⟩, .inl rfl, ?_, ?_, oc, ofh (k08.trans k9), isO, fun v H10 k10 hA10 hv => ?_⟩
            · rintro a' (z | z)
              · rw [z]; exact hA9.there.1
              · rw [z, hD9]; exact fun z => nomatch z
            · rintro (z | z)
              · exact nqh z
              · have := k08.keep _ _ nqh hq
                rw [z, hD2] at this
                cases this
            · have hD10 := k10.keep _ _ e1 hD9
              refine ⟨ws, hD10, by rw [th.1, sizeLine_eq]; omega, (k9.trans k10).mutNew hD2, hA10.mut e1 e2, _, upd_same, ?_⟩
              have kk : Ks (fun a => a = hd ∨ a = D2) H10 (upd H10 D2 (.lst (ws ++ [v]))) := Ks.refl.mut (.inr rfl) (fun ys z => by rw [hD10] at z; cases z)
              exact ((th.ks (k10.mono fun _ z => .inl z)).ks kk).snoc (by rw [hbd]; exact hv.ks kk) (fun z => by rw [hbd] at z; cases z)
          | false =>
            refine iteF' (fun z => by cases z) ⟨_, rfl, _, rfl, l5, _, _, _, rfl, rfl, SqL.of (k9.keep _ _ nR hR8), atI_nat (i := j) (x := .int ([(n : Int), x, y, z, g].getD j 0)) (by rw [List.getElem?_map, hRj]; rfl) (Int.zero_add _), ws, hD9, by rw [th.1, sizeLine_eq]; omega, k9.mutNew hD2, hA9.mut e1 e2, _, upd_same, ?_⟩
            have kk : ∀ v, Ks (fun a => a = hd ∨ a = D2) H9 (upd H9 D2 (.lst (ws ++ [v]))) := fun v => Ks.refl.mut (.inr rfl) (fun ys z => by rw [hD9] at z; cases z)
            exact (th.ks (kk _)).snoc (by rw [hbd]; exact isVs_int ⟨by omega, by omega⟩) (fun _ => rfl)
        · rintro H9 ⟨k9, hA9, ws, hD9, th⟩
          refine stepN ?_
          dsimp only
          have k09 := k08.trans k9
          have hbs9 := k9.keep _ _ d1 hD8
          -- what is due
          refine ⟨(by show 5 ≤ sizeLine; decide), fun wl hwl => ⟨_, rfl, wl, D1, _, _, rfl, .inl ⟨SqL.of upd_same, SqL.of ((Ke.new hwl).at hbs9), fun D3 hD3 => ?_⟩⟩⟩
          have kw : Ke H9 (upd H9 wl (.lst (W5.map V.str))) := Ke.new hwl
          refine lw_zip (K := K) (xs := W5.map V.str) (ys := bs.map V.bl) (fun i H' => Ke (upd H9 wl (.lst (W5.map V.str))) H' ∧ H' D3 = some (.lst ((dueI bs i).map V.str))) (by rw [List.length_map, List.length_map, lb]; rfl) ⟨Ke.new hD3, upd_same⟩ (fun i H' x => ⟨x.1.at upd_same, x.1.at (kw.at hbs9)⟩) ?_ ?_
          · rintro i u v t H10 hu' hv' ⟨k10, hD10⟩ ht
            rw [List.getElem?_map] at hu' hv'
            obtain ⟨w, hw, rfl⟩ : ∃ w, W5[i]? = some w ∧ V.str w = u := by
              cases e : W5[i]? with
              | none => rw [e] at hu'; cases hu'
              | some w => rw [e] at hu'; exact ⟨w, rfl, Option.some.inj hu'⟩
            obtain ⟨f, hf, rfl⟩ : ∃ f, bs[i]? = some f ∧ V.bl f = v := by
              cases e : bs[i]? with
              | none => rw [e] at hv'; cases hv'
              | some w => rw [e] at hv'; exact ⟨w, rfl, Option.some.inj hv'⟩
            have hi5 : i < 5 := by have := (List.getElem?_eq_some_iff.mp hf).1; omega
            have kt : Ke H10 (upd H10 t (.tup [.str w, .bl f])) := Ke.new ht
            have lI : (dueI bs i).length ≤ 5 := by
              unfold dueI
              rw [List.length_map]
              refine Nat.le_trans (List.length_filter_le _ _) ?_
              rw [List.length_take]; omega
            refine ⟨t, _, rfl, SqT.of upd_same, rfl, _, _, rfl, _, _, rfl, rfl, rfl, _, rfl, f, rfl, ?_⟩
            rw [dueI_snoc hw hf]
            cases f with
            | true => exact iteT' rfl ⟨_, rfl, _, kt.at hD10, by rw [List.length_map, sizeLine_eq]; omega, (k10.trans kt).mutNew hD3, by rw [upd_same]; simp⟩
            | false => exact iteF' (fun z => by cases z) ⟨k10.trans kt, by rw [kt.at hD10]; simp⟩
          · rintro H10 ⟨k10', hD10⟩
            rw [show (W5.map V.str).length = 5 by rfl, dueI_all lb] at hD10
            have k10 := kw.trans k10'
            have k010 := k09.trans k10.ks
            have hW10 := k10.at hD9
            refine stepN ?_
            dsimp only
            have ld : (dueM bs).length ≤ 5 := by
              unfold dueM
              rw [List.length_map]
              refine Nat.le_trans (List.length_filter_le _ _) ?_
              rw [List.length_zip]; omega
            have sh10 : ∀ {H' : Hp}, Ke H10 H' → SH K T.a_Shop hd ca p l H' o [] := fun {H'} kk => (sh.ks k010 (hA9.ke k10)).ke kk
            refine seqJI (fun σ' H' => Ke H10 H' ∧ ∃ s12 s13 s14 s15 s16 s17 s18 s19 s20 s21, σ' = [some (.ref hd), some (.ref p), some (.ref q), some (.int o.mv.length), some (.str (enc3 o).shown), some (.int (n : Int)), some (.ref l3), some (.ref l5), some (.ref l10), some (.ref D1), some (.ref D2), some (.ref D3), s12, s13, s14, s15, s16, s17, s18, s19, s20, s21]) (fun nx hnx => ?_) ?_
            · refine ⟨_, rfl, .ref D3, _, rfl, .inl ⟨_, SqL.of hD10, rfl⟩, _, _, rfl, rfl, _, rfl, ?_⟩
              rw [List.length_map]
              by_cases c0 : dueM bs = []
              · rw [c0]
                exact iteF' (fun z => by cases z) (iteF' (fun z => by cases z) (stepT (hnx _ _ ⟨.refl, _, _, _, _, _, _, _, _, _, _, rfl⟩)))
              · have cp := List.length_pos_iff.mpr c0
                refine iteT' (decide_eq_true (by omega)) ?_
                match bs, lb with
                | [b0, b1, b2, b3, b4], _ =>
                  obtain ⟨lw, th⟩ := th
                  obtain ⟨v0, w0, t0, _⟩ := th 0 (by decide)
                  obtain ⟨v1, w1, t1, _⟩ := th 1 (by decide)
                  obtain ⟨v2, w2, t2, _⟩ := th 2 (by decide)
                  obtain ⟨v3, w3, t3, _⟩ := th 3 (by decide)
                  obtain ⟨v4, w4, t4, _⟩ := th 4 (by decide)
                  have ews : ws = [v0, v1, v2, v3, v4] := by
                    match ws, lw with
                    | [u0, u1, u2, u3, u4], _ =>
                      simp at w0 w1 w2 w3 w4
                      rw [w0, w1, w2, w3, w4]
                  subst ews
                  obtain ⟨told, rest, er, ask⟩ := ask0 (os := []) (b0 := b0) (b1 := b1) (b2 := b2) (b3 := b3) (b4 := b4) ez (t0.v.ke k10) (t1.v.ke k10) (t2.v.ke k10) (t3.v.ke k10) (t4.v.ke k10) c0
                  rw [er] at hD10
                  refine ⟨_, rfl, _, rfl, hd, ca, p, l, o, [], 0, D2, _, told, none, rfl, sh10 .refl, by decide, dr.shp, hW10, ask, fun _ H11 k11 => ?_, fun o' os' e => by cases e⟩
                  refine ⟨_, rfl, D3, _, 0, _, rfl, rfl, SqL.of (k11.at hD10), atI_nat (i := 0) rfl rfl, rfl, _, rfl, ifNT rfl ?_⟩
                  refine ⟨_, rfl, _, rfl, hd, ca, p, l, o, [], 4, _, rfl, sh10 k11, dr.ro, by decide, by decide, fun H12 k12 => ⟨true, rfl, ?_⟩⟩
                  exact iteF (stepT (hnx _ _ ⟨k11.trans k12, _, _, _, _, _, _, _, _, _, _, rfl⟩))
            · rintro σ H11 ⟨k11, s12, s13, s14, s15, s16, s17, s18, s19, s20, s21, rfl⟩
              have k011 := k010.trans k11.ks
              have sh11 := sh10 k11
              clear hD10 hW10 th hD9 hbs9 hwl hD3 k10' kw k10 k010 k09 k9 hA9 hD8 k8 hA8
              exact bad_tail sh11 ⟨dx, k011.keep _ _ sh.n1 hp⟩ oc (ofh k011) isO dr (by omega) fun H' kk hA' => k H' (k011.trans kk) hA'
end
end Fd
set_option Elab.async false
set_option linter.all false
set_option maxRecDepth 100000
set_option maxHeartbeats 4000000
namespace Fd
open PySem PySem.Spec PyProof.Rows L2 PySem.W
def fullO : Ofc := ⟨[1, 1, 1], List.replicate 20 [], List.replicate 20 []⟩
theorem good_full : Good fullO.sz fullO.mv fullO.cl := by
  refine ⟨⟨rfl, fun x hx => ?_⟩, ⟨by decide, by decide, fun r hr => ?_⟩, ⟨by decide, fun r hr => ?_⟩⟩
  · have hx' : x ∈ [(1 : Int), 1, 1] := hx
    simp at hx'
    omega
  · rw [List.eq_of_mem_replicate (show r ∈ List.replicate 20 [] from hr)]
    exact ⟨(fun m hm => by cases hm), .nil, by decide⟩
  · rw [List.eq_of_mem_replicate (show r ∈ List.replicate 20 [] from hr)]
    exact ⟨(fun m hm => by cases hm), .nil, by decide⟩
theorem prep {α β : Type} {F : α → β → Prop} {x : α} {y : β} (h : F x y) : ∀ n, Paired F (List.replicate n x) (List.replicate n y)
  | 0 => .nil
  | n + 1 => .cons h (prep h n)
theorem good_shp {o : Ofc} (g : Good o.sz o.mv o.cl) (h1 : ∀ r ∈ o.mv, r.length < 900000) (h2 : ∀ r ∈ o.cl, r.length < 900000) : Shp o where
  s3 := g.s.1
  n1 := g.m.1
  n2 := by have := g.m.2.1; omega
  cl := by have := g.c.1; omega
  rw_ := fun r hr => ⟨h1 r hr, fun m hm e => by
    obtain ⟨_, _, _, _, _, _, _, _, rfl, _⟩ := (g.m.2.2 r hr).1 m hm
    cases e⟩
  rc := h2
  sh := fun _ => (good_sh g).2.2 g.s
theorem full_bad : BadP fullO.sz (fullO.mv ++ [[]]) (fullO.cl ++ [[]]) "moves" := .inr (.inl ⟨good_full.s, fun z => absurd z.2.1 (by decide), rfl⟩)
theorem one_sort : sortT (([] : List (List Int)) ++ [[0, 0, 0, 19]]) = [[0, 0, 0, 19]] := List.mergeSort_singleton _
theorem good_full2 : Good fullO.sz (fullO.mv.set 19 (sortT (([] : List (List Int)) ++ [[0, 0, 0, 19]]))) fullO.cl := by
  rw [one_sort]
  refine ⟨good_full.s, ⟨by decide, by decide, fun r hr => ?_⟩, good_full.c⟩
  rcases List.mem_or_eq_of_mem_set hr with z | z
  · exact good_full.m.2.2 r z
  · rw [z]
    refine ⟨fun m hm => ?_, by simp, by decide⟩
    rw [List.mem_singleton.mp hm]
    exact ⟨1, 1, 1, 0, 0, 0, 19, rfl, rfl, by decide, by decide, by decide, by decide, by decide⟩
def oneO : Ofc := ⟨[1, 2, 3], [[[0, 0, 0, 0], [0, 1, 1, 0]]], [[0, 1]]⟩
def twoO : Ofc := ⟨[2, 3, 2], [[[0, 0, 0, 0], [1, 2, 1, 0]]], [[0, 1]]⟩
theorem good_one : Good oneO.sz oneO.mv oneO.cl := by
  refine ⟨⟨rfl, by decide⟩, ⟨by decide, by decide, fun r hr => ?_⟩, ⟨by decide, fun r hr => ?_⟩⟩
  · have e : r = [[0, 0, 0, 0], [0, 1, 1, 0]] := by simpa using (show r ∈ [[[(0 : Int), 0, 0, 0], [0, 1, 1, 0]]] from hr)
    subst e
    refine ⟨fun m hm => ?_, by decide, by decide⟩
    simp only [List.mem_cons, List.mem_nil_iff, or_false] at hm
    rcases hm with rfl | rfl
    · exact ⟨1, 2, 3, 0, 0, 0, 0, rfl, rfl, by decide, by decide, by decide, by decide, by decide⟩
    · exact ⟨1, 2, 3, 0, 1, 1, 0, rfl, rfl, by decide, by decide, by decide, by decide, by decide⟩
  · have e : r = [0, 1] := by simpa using (show r ∈ [[(0 : Int), 1]] from hr)
    subst e
    refine ⟨fun k hk => ⟨1, 2, 3, rfl, ?_⟩, by decide, by decide⟩
    simp at hk
    omega
theorem good_two : Good twoO.sz twoO.mv twoO.cl := by
  refine ⟨⟨rfl, by decide⟩, ⟨by decide, by decide, fun r hr => ?_⟩, ⟨by decide, fun r hr => ?_⟩⟩
  · have e : r = [[0, 0, 0, 0], [1, 2, 1, 0]] := by simpa using (show r ∈ [[[(0 : Int), 0, 0, 0], [1, 2, 1, 0]]] from hr)
    subst e
    refine ⟨fun m hm => ?_, by decide, by decide⟩
    simp only [List.mem_cons, List.mem_nil_iff, or_false] at hm
    rcases hm with rfl | rfl
    · exact ⟨2, 3, 2, 0, 0, 0, 0, rfl, rfl, by decide, by decide, by decide, by decide, by decide⟩
    · exact ⟨2, 3, 2, 1, 2, 1, 0, rfl, rfl, by decide, by decide, by decide, by decide, by decide⟩
  · have e : r = [0, 1] := by simpa using (show r ∈ [[(0 : Int), 1]] from hr)
    subst e
    refine ⟨fun k hk => ⟨2, 3, 2, rfl, ?_⟩, by decide, by decide⟩
    simp at hk
    omega
theorem good_wf {o : Ofc} (g : Good o.sz o.mv o.cl) : Wf o where
  sz := by
    obtain ⟨h1, h2⟩ := g.s
    match e : o.sz, h1 with
    | [a, b, c], _ =>
      rw [e] at h2
      have := h2 a (by simp)
      have := h2 b (by simp)
      have := h2 c (by simp)
      exact ⟨a, b, c, rfl, by omega, by omega, by omega⟩
  n1 := g.m.1
  n2 := by have := g.m.2.1; omega
  cl := by have := g.c.1; omega
  mv := fun r hr => ⟨(g.m.2.2 r hr).2.2, (g.m.2.2 r hr).1⟩
  ck := fun r hr => ⟨(g.c.2 r hr).2.2, fun k hk => by
    obtain ⟨a, b, c, e, h1, h2⟩ := (g.c.2 r hr).1 k hk
    have := g.s.2 c (by rw [e]; simp)
    omega⟩
theorem chain_len : (chainM oneO twoO).mv.length = 1 ∧ (chainM oneO twoO).cl.length = 1 := ⟨by rfl, by rfl⟩
theorem not_sizes : ¬ Sizes (chainM oneO twoO).sz := fun z => by
  have := z.2 6 (by show (6 : Int) ∈ [1, 6, 6]; simp)
  omega
theorem shp_full2 : Shp ⟨fullO.sz, fullO.mv.set 19 (sortT (([] : List (List Int)) ++ [[0, 0, 0, 19]])), fullO.cl⟩ := good_shp good_full2 (fun r hr => by
  rcases List.mem_or_eq_of_mem_set (show r ∈ fullO.mv.set 19 (sortT (([] : List (List Int)) ++ [[0, 0, 0, 19]])) from hr) with z | z
  · rw [List.eq_of_mem_replicate (show r ∈ List.replicate 20 [] from z)]; decide
  · rw [z, one_sort]; decide) (fun r hr => by rw [List.eq_of_mem_replicate (show r ∈ List.replicate 20 [] from hr)]; decide)
theorem chain_rows : (∀ r ∈ (chainM oneO twoO).mv, r.length < 900000 ∧ ∀ m ∈ r, m ≠ []) ∧ ∀ r ∈ (chainM oneO twoO).cl, r.length < 900000 := by
  constructor
  · intro r hr
    have e : r = sortT (rowC (pairsC [[0, 0]] (jsC oneO twoO [0, 0])) (jsC oneO twoO [0, 0])) := by
      have h : (chainM oneO twoO).mv = [sortT (rowC (pairsC [[0, 0]] (jsC oneO twoO [0, 0])) (jsC oneO twoO [0, 0]))] := by rfl
      rw [h] at hr
      exact List.mem_singleton.mp hr
    rw [e]
    refine ⟨?_, fun m hm => rowC_ne m (mem_sortT.mp hm)⟩
    rw [len_sortT]
    unfold rowC jsC
    rw [List.length_map, len_sortP]
    have : (jointM oneO twoO ([(0 : Int), 0].getD 0 0) ([(0 : Int), 0].getD 1 0)).length = 2 := by decide
    omega
  · intro r hr
    have e : r = sortI (jointL oneO twoO 0 0) := by
      have h : (chainM oneO twoO).cl = [sortI (jointL oneO twoO 0 0)] := by rfl
      rw [h] at hr
      exact List.mem_singleton.mp hr
    rw [e, len_sortI]
    have : (jointL oneO twoO 0 0).length = 4 := by decide
    omega
theorem shp_chain : Shp (chainM oneO twoO) where
  s3 := rfl
  n1 := by rw [chain_len.1]; exact Nat.le_refl 1
  n2 := by rw [chain_len.1]; decide
  cl := by rw [chain_len.1, chain_len.2]
  rw_ := chain_rows.1
  rc := chain_rows.2
  sh := fun z => absurd z not_sizes
theorem chain_bad {mv : List (List (List Int))} {cl : List (List Int)} : BadP (chainM oneO twoO).sz mv cl "sizes" := .inl ⟨not_sizes, rfl⟩
def sp_beyond : Sp := fun xs H Q _ => ∃ hd ca, xs = [.ref hd] ∧ HandAt H hd ca ∧ ∀ H', Q (.bl true) H'
section
variable {P : Program} {w : World} {K : PySem.W.Frag} {mg : Str → Option Value} {base : Heap} (T : Txt K mg) (Er : Err P K mg) (Eq : ErrQ Er) (htop : (P.main.scope.names.lookup ("super" : Str)).isSome = false)
include T Er Eq htop
theorem ok_l_beyond_ : FnOk P w K mg base CX0 11 T.a_l_beyond T.d_l_beyond P_l_beyond sp_beyond := by
  have ok_l_asked : ∀ _ : Txt K mg, FnOk P w K mg base CX0 10 T.a_l_asked T.d_l_asked P_l_asked (sp_asked K T.a_Shop) := fun _ => Fd.ok_l_asked T Er Eq htop
  have ok_l_part : ∀ _ : Txt K mg, FnOk P w K mg base CX0 10 T.a_l_part T.d_l_part P_l_part (sp_part K T.a_Shop) := fun _ => Fd.ok_l_part T Er Eq htop
  refine T.F_l_beyond.ok sc_l_beyond (fun vs H Q E h => ?_) (fun cdv A outer s H vs Q E hr h => ?_)
  · obtain ⟨hd, ca, rfl, _⟩ := h; rfl
  · obtain ⟨hd, ca, rfl, hA, k⟩ := h
    refine ⟨_, (pss_cons (ps_set (i := 1) sc_l_beyond.nd rfl (Or.inl rfl) (pe_make T.m_Shop (ok_Shop_init T) (hr.mono (by decide)) rfl T.g_Shop T.b_Shop_init .nil pass0 (pa_cons (pe_make T.m_Office (ok_Office_init T Er htop) (hr.mono (by decide)) rfl T.g_Office T.b_Office_init .nil passL (pa_cons (pe_tup (pa_cons pe_int (pa_cons pe_int (pa_cons pe_int pa_nil)))) (pa_cons (pe_op op_repT (pe_tup (pa_cons (pe_tup pa_nil) pa_nil)) pe_int) (pa_cons (pe_op op_repT (pe_tup (pa_cons (pe_tup pa_nil) pa_nil)) pe_int) pa_nil)))) pa_nil)))
  (pss_cons (ps_if (PW.pt (pw_or (pt_cmpR op_ne (pe_call (ok_l_part T) (hr.mono (by decide)) rfl T.g_l_part T.k_l_part T.b_l_part .nil pass0 (pa_cons pe_int (pa_cons (pv 1) (pa_cons (pe_lst pa_nil) pa_nil)))) pe_str (nomark _)) (pw_or (pt_cmpR op_ne (pe_call (ok_l_asked T) (hr.mono (by decide)) rfl T.g_l_asked T.k_l_asked T.b_l_asked .nil pass0 (pa_cons pe_int (pa_cons (pv 1) (pa_cons (pe_lst (pa_cons pe_int (pa_cons pe_int (pa_cons pe_int (pa_cons pe_int (pa_cons pe_int pa_nil)))))) pa_nil)))) pe_str (nomark _)) (pw_or1 (pt_cmpR op_ne (pe_meth0 (pv 1) T.c_Shop T.t_Shop_depth (ok_Shop_depth T) (hr.mono (by decide)) T.b_Shop_depth .nil pass0) pe_int (nomark _)))))) (pss_one (ps_ret pe_bl)) pss_nil)
  (pss_cons (ps_if (PW.pt (pw_or (pt_cmpR op_ne (pe_call (ok_l_asked T) (hr.mono (by decide)) rfl T.g_l_asked T.k_l_asked T.b_l_asked .nil pass0 (pa_cons pe_int (pa_cons (pv 1) (pa_cons (pe_lst (pa_cons pe_int (pa_cons pe_int (pa_cons pe_int (pa_cons pe_int (pa_cons pe_int pa_nil)))))) pa_nil)))) pe_str (nomark _)) (pw_or1 (pt_cmpR op_ne (pe_call (ok_l_asked T) (hr.mono (by decide)) rfl T.g_l_asked T.k_l_asked T.b_l_asked .nil pass0 (pa_cons pe_int (pa_cons (pv 1) (pa_cons (pe_lst (pa_cons pe_int (pa_cons pe_int (pa_cons pe_int (pa_cons pe_int (pa_cons pe_int pa_nil)))))) pa_nil)))) pe_str (nomark _))))) (pss_one (ps_ret pe_bl)) pss_nil)
  (pss_cons (ps_set (i := 2) sc_l_beyond.nd rfl (Or.inl rfl) (pe_make T.m_Office (ok_Office_init T Er htop) (hr.mono (by decide)) rfl T.g_Office T.b_Office_init .nil passL (pa_cons (pe_tup (pa_cons pe_int (pa_cons pe_int (pa_cons pe_int pa_nil)))) (pa_cons (pe_tup (pa_cons (pe_tup (pa_cons (pe_tup (pa_cons pe_int (pa_cons pe_int (pa_cons pe_int (pa_cons pe_int pa_nil))))) (pa_cons (pe_tup (pa_cons pe_int (pa_cons pe_int (pa_cons pe_int (pa_cons pe_int pa_nil))))) pa_nil))) pa_nil)) (pa_cons (pe_tup (pa_cons (pe_tup (pa_cons pe_int (pa_cons pe_int pa_nil))) pa_nil)) pa_nil)))))
  (pss_cons (ps_set (i := 3) sc_l_beyond.nd rfl (Or.inl rfl) (pe_call (ok_chained T) (hr.mono (by decide)) rfl T.g_chained T.k_chained T.b_chained .nil pass0 (pa_cons (pv 2) (pa_cons (pe_make T.m_Office (ok_Office_init T Er htop) (hr.mono (by decide)) rfl T.g_Office T.b_Office_init .nil passL (pa_cons (pe_tup (pa_cons pe_int (pa_cons pe_int (pa_cons pe_int pa_nil)))) (pa_cons (pe_tup (pa_cons (pe_tup (pa_cons (pe_tup (pa_cons pe_int (pa_cons pe_int (pa_cons pe_int (pa_cons pe_int pa_nil))))) (pa_cons (pe_tup (pa_cons pe_int (pa_cons pe_int (pa_cons pe_int (pa_cons pe_int pa_nil))))) pa_nil))) pa_nil)) (pa_cons (pe_tup (pa_cons (pe_tup (pa_cons pe_int (pa_cons pe_int pa_nil))) pa_nil)) pa_nil)))) pa_nil))))
  (pss_cons (ps_set (i := 4) sc_l_beyond.nd rfl (Or.inl rfl) (pe_make T.m_Shop (ok_Shop_init T) (hr.mono (by decide)) rfl T.g_Shop T.b_Shop_init .nil pass0 (pa_cons (pv 3) pa_nil)))
  (pss_cons (ps_if (PW.pt (pw_or (pt_cmpR op_ne (pe_call (ok_l_part T) (hr.mono (by decide)) rfl T.g_l_part T.k_l_part T.b_l_part .nil pass0 (pa_cons pe_int (pa_cons (pv 4) (pa_cons (pe_lst pa_nil) pa_nil)))) pe_str (nomark _)) (pw_or1 (pt_cmpR op_ne (pe_call (ok_l_part T) (hr.mono (by decide)) rfl T.g_l_part T.k_l_part T.b_l_part .nil pass0 (pa_cons pe_int (pa_cons (pv 4) (pa_cons (pe_lst (pa_cons pe_int (pa_cons pe_int (pa_cons pe_int (pa_cons pe_int (pa_cons pe_int pa_nil)))))) pa_nil)))) pe_str (nomark _))))) (pss_one (ps_ret pe_bl)) pss_nil)
  (pss_cons (ps_if (PW.pt (pw_or (pt_cmpR op_ne (pe_call (ok_l_part T) (hr.mono (by decide)) rfl T.g_l_part T.k_l_part T.b_l_part .nil pass0 (pa_cons pe_int (pa_cons (pv 4) (pa_cons (pe_lst (pa_cons pe_int (pa_cons pe_int pa_nil))) pa_nil)))) pe_str (nomark _)) (pw_or1 (pt_cmpR op_ne (pe_call (ok_l_asked T) (hr.mono (by decide)) rfl T.g_l_asked T.k_l_asked T.b_l_asked .nil pass0 (pa_cons pe_int (pa_cons (pv 4) (pa_cons (pe_lst (pa_cons pe_int (pa_cons pe_int (pa_cons pe_int (pa_cons pe_int (pa_cons pe_int pa_nil)))))) pa_nil)))) pe_str (nomark _))))) (pss_one (ps_ret pe_bl)) pss_nil)
  (pss_one (ps_ret (pe_and (pe_cmpR (op_eqG (rcG_ins (ok_RawOffice___eq__ T) T.t_RawOffice___eq__.at_ T.t_RawOffice___eq__.fn T.b_RawOffice___eq__ pass0) (hr.mono (by decide))) (pe_meth0 (pv 4) T.c_Shop T.t_Shop_office (ok_Shop_office T) (hr.mono (by decide)) T.b_Shop_office .nil pass0) (pv 3) (nomark _)) (pe_one (pe_cmpR op_eq (pe_meth0 (pv 4) T.c_Shop T.t_Shop_depth (ok_Shop_depth T) (hr.mono (by decide)) T.b_Shop_depth .nil pass0) pe_int (nomark _)))))))))))))), ?_⟩
    refine ⟨(by show 3 ≤ sizeLine; decide), fun t1 ht1 => ?_⟩
    have kJ1 : Ke H (upd H t1 (.tup [.int 1, .int 1, .int 1])) := Ke.new ht1
    have gt1 : (upd H t1 (.tup [.int 1, .int 1, .int 1])) t1 = some (.tup [.int 1, .int 1, .int 1]) := upd_same
    generalize upd H t1 (.tup [.int 1, .int 1, .int 1]) = J1 at kJ1 gt1 ⊢
    refine ⟨by decide, fun e0 he0 => ?_⟩
    have kJ2 : Ke J1 (upd J1 e0 (.tup [])) := Ke.new he0
    have ge0 : (upd J1 e0 (.tup [])) e0 = some (.tup []) := upd_same
    generalize upd J1 e0 (.tup []) = J2 at kJ2 ge0 ⊢
    refine ⟨(by show 1 ≤ sizeLine; decide), fun t2 ht2 => ?_⟩
    have kJ3 : Ke J2 (upd J2 t2 (.tup [.ref e0])) := Ke.new ht2
    have gt2 : (upd J2 t2 (.tup [.ref e0])) t2 = some (.tup [.ref e0]) := upd_same
    generalize upd J2 t2 (.tup [.ref e0]) = J3 at kJ3 gt2 ⊢
    refine ⟨t2, 20, [.ref e0], rfl, rfl, SqT.of gt2, (fun e => nomatch e), by decide, by decide, (by show 1 ≤ 1000; decide), fun t3 ht3 => ?_⟩
    have kJ4 : Ke J3 (upd J3 t3 (.tup (List.replicate (20 : Int).toNat [V.ref e0]).flatten)) := Ke.new ht3
    have gt3 : (upd J3 t3 (.tup (List.replicate (20 : Int).toNat [V.ref e0]).flatten)) t3 = some (.tup (List.replicate 20 (.ref e0))) := upd_same
    generalize upd J3 t3 (.tup (List.replicate (20 : Int).toNat [V.ref e0]).flatten) = J4 at kJ4 gt3 ⊢
    refine ⟨by decide, fun e4 he4 => ?_⟩
    have kJ5 : Ke J4 (upd J4 e4 (.tup [])) := Ke.new he4
    have ge4 : (upd J4 e4 (.tup [])) e4 = some (.tup []) := upd_same
    generalize upd J4 e4 (.tup []) = J5 at kJ5 ge4 ⊢
    refine ⟨(by show 1 ≤ sizeLine; decide), fun t5 ht5 => ?_⟩
    have kJ6 : Ke J5 (upd J5 t5 (.tup [.ref e4])) := Ke.new ht5
    have gt5 : (upd J5 t5 (.tup [.ref e4])) t5 = some (.tup [.ref e4]) := upd_same
    generalize upd J5 t5 (.tup [.ref e4]) = J6 at kJ6 gt5 ⊢
    refine ⟨t5, 20, [.ref e4], rfl, rfl, SqT.of gt5, (fun e => nomatch e), by decide, by decide, (by show 1 ≤ 1000; decide), fun t6 ht6 => ?_⟩
    have kJ7 : Ke J6 (upd J6 t6 (.tup (List.replicate (20 : Int).toNat [V.ref e4]).flatten)) := Ke.new ht6
    have gt6 : (upd J6 t6 (.tup (List.replicate (20 : Int).toNat [V.ref e4]).flatten)) t6 = some (.tup (List.replicate 20 (.ref e4))) := upd_same
    generalize upd J6 t6 (.tup (List.replicate (20 : Int).toNat [V.ref e4]).flatten) = J7 at kJ7 gt6 ⊢
    have k47 : Ke J4 J7 := (kJ5.trans kJ6).trans kJ7
    have k17 : Ke J1 J7 := ((kJ2.trans kJ3).trans kJ4).trans k47
    have k07 := kJ1.trans k17
    have hA7 := hA.ke k07
    refine nilA (mk_offX hA7 (⟨t1, rfl, k17.at gt1⟩ : TI J7 _ fullO.sz) (⟨t3, _, rfl, k47.at gt3, prep (⟨e0, [], rfl, (((kJ3.trans kJ4).trans k47).at ge0), .nil⟩ : TT TI J7 (.ref e0) []) 20⟩ : TT (TT TI) J7 _ fullO.mv) (⟨t6, _, rfl, gt6, prep (⟨e4, rfl, (kJ6.trans kJ7).at ge4⟩ : TI J7 (.ref e4) []) 20⟩ : TT TI J7 _ fullO.cl) good_full fun q H8 k8 hA8 of8 => ?_)
    refine nilA (mk_shop (o := fullO) hA8 ⟨q, _, rfl, T.oc, of8⟩ fun p l H9 k9 sh _ _ => stepN ?_)
    dsimp only
    -- the full shop
    have shpF : Shp fullO := good_shp good_full (fun r hr => by rw [List.eq_of_mem_replicate (show r ∈ List.replicate 20 [] from hr)]; decide) (fun r hr => by rw [List.eq_of_mem_replicate (show r ∈ List.replicate 20 [] from hr)]; decide)
    refine ⟨_, rfl, by decide, fun la hla => ?_⟩
    refine ⟨hd, ca, p, l, fullO, [], 4, la, [], "moves", rfl, sh.ke (Ke.new hla), by decide, shpF, upd_same, .inr (.inr ⟨rfl, full_bad⟩), fun H10 k10 => ⟨rfl, _, rfl, ifNT rfl ?_⟩⟩
    have sh10 := (sh.ke (Ke.new (o := .lst []) hla)).ke k10
    refine ⟨_, rfl, (by show 5 ≤ sizeLine; decide), fun lb hlb => ?_⟩
    refine ⟨hd, ca, p, l, fullO, [], 0, lb, _, "let", _, rfl, sh10.ke (Ke.new hlb), by decide, shpF, upd_same, .put3 (n := 19) (x := 0) (y := 0) (z := 0) (g := 19) (a := 1) (b := 1) (c := 1) (row := []) rfl rfl (by decide) (by decide) (by decide) (by decide) good_full2, (fun e => by cases e), fun o' os' e H11 kS sh11 _ _ => ?_⟩
    cases e
    refine ⟨rfl, _, rfl, ifNT rfl ?_⟩
    obtain ⟨dx11, v11, past11, hp11, _, _, _⟩ := sh11.ex
    refine ⟨_, rfl, p, dx11, _, rfl, hp11, rfl, nilA ⟨hd, ca, p, l, _, _, rfl, sh11, rfl, _, rfl, ifNT rfl (stepT ?_)⟩⟩
    refine ⟨_, rfl, (by show 5 ≤ sizeLine; decide), fun lc hlc => ?_⟩
    refine ⟨hd, ca, p, l, _, _, 0, lc, _, "standing", none, rfl, sh11.ke (Ke.new hlc), (by show 1 < 1000; decide), shp_full2, upd_same, .put0 (.inl ⟨20, rfl, by rfl⟩) ⟨1, 1, 1, true, true, true, true, rfl, isV_int (by decide), isV_int (by decide), isV_int (by decide), isV_int (by decide)⟩, fun _ H12 k12 => ⟨rfl, _, rfl, ifNT rfl ?_⟩, fun o' os' e => by cases e⟩
    have sh12 := (sh11.ke (Ke.new (o := .lst [.int 20, .int 0, .int 0, .int 0, .int 0]) hlc)).ke k12
    refine ⟨_, rfl, (by show 5 ≤ sizeLine; decide), fun ld hld => ?_⟩
    refine ⟨hd, ca, p, l, _, _, 0, ld, _, "standing", none, rfl, sh12.ke (Ke.new hld), (by show 1 < 1000; decide), shp_full2, upd_same, .put2 (a := 1) (b := 1) (c := 1) (isV_int (by decide)) rfl (isV_int (by decide)) (isV_int (by decide)) (isV_int (by decide)) (.inl ⟨20, rfl, by rfl⟩), fun _ H15 k15 => ⟨rfl, _, rfl, ifNT rfl (stepT ?_)⟩, fun o' os' e => by cases e⟩
    have hA15 := ((sh12.ke (Ke.new (o := .lst [.int 0, .int 0, .int 0, .int 0, .int 20]) hld)).ke k15).hA
    dsimp only
    -- the chain
    refine ⟨(by show 3 ≤ sizeLine; decide), fun au hau => ?_⟩
    have kJ20 : Ke H15 (upd H15 au (.tup [.int 1, .int 2, .int 3])) := Ke.new hau
    have gau : (upd H15 au (.tup [.int 1, .int 2, .int 3])) au = some (.tup [.int 1, .int 2, .int 3]) := upd_same
    generalize upd H15 au (.tup [.int 1, .int 2, .int 3]) = J20 at kJ20 gau ⊢
    refine ⟨(by show 4 ≤ sizeLine; decide), fun am1 ham1 => ?_⟩
    have kJ21 : Ke J20 (upd J20 am1 (.tup [.int 0, .int 0, .int 0, .int 0])) := Ke.new ham1
    have gam1 : (upd J20 am1 (.tup [.int 0, .int 0, .int 0, .int 0])) am1 = some (.tup [.int 0, .int 0, .int 0, .int 0]) := upd_same
    generalize upd J20 am1 (.tup [.int 0, .int 0, .int 0, .int 0]) = J21 at kJ21 gam1 ⊢
    refine ⟨(by show 4 ≤ sizeLine; decide), fun am2 ham2 => ?_⟩
    have kJ22 : Ke J21 (upd J21 am2 (.tup [.int 0, .int 1, .int 1, .int 0])) := Ke.new ham2
    have gam2 : (upd J21 am2 (.tup [.int 0, .int 1, .int 1, .int 0])) am2 = some (.tup [.int 0, .int 1, .int 1, .int 0]) := upd_same
    generalize upd J21 am2 (.tup [.int 0, .int 1, .int 1, .int 0]) = J22 at kJ22 gam2 ⊢
    refine ⟨(by show 2 ≤ sizeLine; decide), fun ar har => ?_⟩
    have kJ23 : Ke J22 (upd J22 ar (.tup [.ref am1, .ref am2])) := Ke.new har
    have gar : (upd J22 ar (.tup [.ref am1, .ref am2])) ar = some (.tup [.ref am1, .ref am2]) := upd_same
    generalize upd J22 ar (.tup [.ref am1, .ref am2]) = J23 at kJ23 gar ⊢
    refine ⟨(by show 1 ≤ sizeLine; decide), fun aw haw => ?_⟩
    have kJ24 : Ke J23 (upd J23 aw (.tup [.ref ar])) := Ke.new haw
    have gaw : (upd J23 aw (.tup [.ref ar])) aw = some (.tup [.ref ar]) := upd_same
    generalize upd J23 aw (.tup [.ref ar]) = J24 at kJ24 gaw ⊢
    refine ⟨(by show 2 ≤ sizeLine; decide), fun ac hac => ?_⟩
    have kJ25 : Ke J24 (upd J24 ac (.tup [.int 0, .int 1])) := Ke.new hac
    have gac : (upd J24 ac (.tup [.int 0, .int 1])) ac = some (.tup [.int 0, .int 1]) := upd_same
    generalize upd J24 ac (.tup [.int 0, .int 1]) = J25 at kJ25 gac ⊢
    refine ⟨(by show 1 ≤ sizeLine; decide), fun ad had => ?_⟩
    have kJ26 : Ke J25 (upd J25 ad (.tup [.ref ac])) := Ke.new had
    have gad : (upd J25 ad (.tup [.ref ac])) ad = some (.tup [.ref ac]) := upd_same
    generalize upd J25 ad (.tup [.ref ac]) = J26 at kJ26 gad ⊢
    have kAa : Ke H15 J26 := kJ20.trans (((((kJ21.trans kJ22).trans kJ23).trans kJ24).trans kJ25).trans kJ26)
    have hsa : TI J26 (.ref au) oneO.sz := ⟨au, rfl, ((((((kJ21.trans kJ22).trans kJ23).trans kJ24).trans kJ25).trans kJ26)).at gau⟩
    have hma : TT (TT TI) J26 (.ref aw) oneO.mv := ⟨aw, _, rfl, ((kJ25.trans kJ26)).at gaw, .cons ⟨ar, _, rfl, (((kJ24.trans kJ25).trans kJ26)).at gar, .cons ⟨am1, rfl, (((((kJ22.trans kJ23).trans kJ24).trans kJ25).trans kJ26)).at gam1⟩ (.cons ⟨am2, rfl, ((((kJ23.trans kJ24).trans kJ25).trans kJ26)).at gam2⟩ .nil)⟩ .nil⟩
    have hca : TT TI J26 (.ref ad) oneO.cl := ⟨ad, _, rfl, gad, .cons ⟨ac, rfl, (kJ26).at gac⟩ .nil⟩
    refine nilA (mk_offX (hA15.ke kAa) hsa hma hca good_one fun q1 H16 k16 hA16 of1 => stepN ?_)
    refine ⟨_, rfl, ?_⟩
    refine ⟨(by show 3 ≤ sizeLine; decide), fun bu hbu => ?_⟩
    have kJ40 : Ke H16 (upd H16 bu (.tup [.int 2, .int 3, .int 2])) := Ke.new hbu
    have gbu : (upd H16 bu (.tup [.int 2, .int 3, .int 2])) bu = some (.tup [.int 2, .int 3, .int 2]) := upd_same
    generalize upd H16 bu (.tup [.int 2, .int 3, .int 2]) = J40 at kJ40 gbu ⊢
    refine ⟨(by show 4 ≤ sizeLine; decide), fun bm1 hbm1 => ?_⟩
    have kJ41 : Ke J40 (upd J40 bm1 (.tup [.int 0, .int 0, .int 0, .int 0])) := Ke.new hbm1
    have gbm1 : (upd J40 bm1 (.tup [.int 0, .int 0, .int 0, .int 0])) bm1 = some (.tup [.int 0, .int 0, .int 0, .int 0]) := upd_same
    generalize upd J40 bm1 (.tup [.int 0, .int 0, .int 0, .int 0]) = J41 at kJ41 gbm1 ⊢
    refine ⟨(by show 4 ≤ sizeLine; decide), fun bm2 hbm2 => ?_⟩
    have kJ42 : Ke J41 (upd J41 bm2 (.tup [.int 1, .int 2, .int 1, .int 0])) := Ke.new hbm2
    have gbm2 : (upd J41 bm2 (.tup [.int 1, .int 2, .int 1, .int 0])) bm2 = some (.tup [.int 1, .int 2, .int 1, .int 0]) := upd_same
    generalize upd J41 bm2 (.tup [.int 1, .int 2, .int 1, .int 0]) = J42 at kJ42 gbm2 ⊢
    refine ⟨(by show 2 ≤ sizeLine; decide), fun br hbr => ?_⟩
    have kJ43 : Ke J42 (upd J42 br (.tup [.ref bm1, .ref bm2])) := Ke.new hbr
    have gbr : (upd J42 br (.tup [.ref bm1, .ref bm2])) br = some (.tup [.ref bm1, .ref bm2]) := upd_same
    generalize upd J42 br (.tup [.ref bm1, .ref bm2]) = J43 at kJ43 gbr ⊢
    refine ⟨(by show 1 ≤ sizeLine; decide), fun bw hbw => ?_⟩
    have kJ44 : Ke J43 (upd J43 bw (.tup [.ref br])) := Ke.new hbw
    have gbw : (upd J43 bw (.tup [.ref br])) bw = some (.tup [.ref br]) := upd_same
    generalize upd J43 bw (.tup [.ref br]) = J44 at kJ44 gbw ⊢
    refine ⟨(by show 2 ≤ sizeLine; decide), fun bc hbc => ?_⟩
    have kJ45 : Ke J44 (upd J44 bc (.tup [.int 0, .int 1])) := Ke.new hbc
    have gbc : (upd J44 bc (.tup [.int 0, .int 1])) bc = some (.tup [.int 0, .int 1]) := upd_same
    generalize upd J44 bc (.tup [.int 0, .int 1]) = J45 at kJ45 gbc ⊢
    refine ⟨(by show 1 ≤ sizeLine; decide), fun bd hbd => ?_⟩
    have kJ46 : Ke J45 (upd J45 bd (.tup [.ref bc])) := Ke.new hbd
    have gbd : (upd J45 bd (.tup [.ref bc])) bd = some (.tup [.ref bc]) := upd_same
    generalize upd J45 bd (.tup [.ref bc]) = J46 at kJ46 gbd ⊢
    have kAb : Ke H16 J46 := kJ40.trans (((((kJ41.trans kJ42).trans kJ43).trans kJ44).trans kJ45).trans kJ46)
    have hsb : TI J46 (.ref bu) twoO.sz := ⟨bu, rfl, ((((((kJ41.trans kJ42).trans kJ43).trans kJ44).trans kJ45).trans kJ46)).at gbu⟩
    have hmb : TT (TT TI) J46 (.ref bw) twoO.mv := ⟨bw, _, rfl, ((kJ45.trans kJ46)).at gbw, .cons ⟨br, _, rfl, (((kJ44.trans kJ45).trans kJ46)).at gbr, .cons ⟨bm1, rfl, (((((kJ42.trans kJ43).trans kJ44).trans kJ45).trans kJ46)).at gbm1⟩ (.cons ⟨bm2, rfl, ((((kJ43.trans kJ44).trans kJ45).trans kJ46)).at gbm2⟩ .nil)⟩ .nil⟩
    have hcb : TT TI J46 (.ref bd) twoO.cl := ⟨bd, _, rfl, gbd, .cons ⟨bc, rfl, (kJ46).at gbc⟩ .nil⟩
    refine nilA (mk_offX (hA16.ke kAb) hsb hmb hcb good_two fun q2 H17 k17 hA17 of2 => ?_)
    have of1' : OfAt T.a_Office H17 q1 oneO := (of1.ke (Hd.ke (kAb.ks.trans k17))).ke (Le.ke Hd.le)
    have of2' : OfAt T.a_Office H17 q2 twoO := of2.ke (Le.ke Hd.le)
    refine nilA ⟨q1, q2, oneO, twoO, rfl, ⟨⟨_, T.oc, of1'⟩, ⟨_, T.oc, of2'⟩, good_wf good_one, good_wf good_two, ⟨by decide, by decide⟩, ⟨by decide, by decide⟩⟩, by decide, by decide, fun pc H18 k18 ofc => stepN ?_⟩
    have hA18 := hA17.ke k18
    refine ⟨_, rfl, nilA (mk_shop (o := chainM oneO twoO) hA18 ⟨pc, _, rfl, T.ocR, std_at ofc hA18⟩ fun p2 l2 H19 k19 sh2 hp2 mv2 => stepN ?_)⟩
    dsimp only
    obtain ⟨dxp, hpp⟩ := hp2
    obtain ⟨row, hrow⟩ : ∃ r, (chainM oneO twoO).mv[0]? = some r := ⟨_, List.getElem?_eq_getElem (by rw [chain_len.1]; decide)⟩
    obtain ⟨cro, hcro⟩ : ∃ r, (chainM oneO twoO).cl[0]? = some r := ⟨_, List.getElem?_eq_getElem (by rw [chain_len.2]; decide)⟩
    have eO : Er.a_Office = T.a_Office := by
      have := Er.g_Office.symm.trans T.g_Office
      injection this with this
      injection this
    have eR : Er.a_RawOffice = T.a_RawOffice := by
      have := Er.g_RawOffice.symm.trans T.g_RawOffice
      injection this with this
      injection this
    have r1 := Eq.r1
    have r4 := Eq.r4
    have r7 := Eq.r7
    rw [eR] at r1 r4
    rw [eR, eO] at r7
    refine ⟨_, rfl, by decide, fun la2 hla2 => ?_⟩
    refine ⟨hd, ca, p2, l2, _, [], 4, la2, [], "sizes", rfl, sh2.ke (Ke.new hla2), by decide, shp_chain, upd_same, .inr (.inr ⟨rfl, chain_bad⟩), fun H20 k20 => ⟨rfl, _, rfl, ifNT rfl ?_⟩⟩
    have kk20 : Ke H19 H20 := (Ke.new (o := .lst []) hla2).trans k20
    refine ⟨_, rfl, (by show 5 ≤ sizeLine; decide), fun lb2 hlb2 => ?_⟩
    have kb2 := kk20.trans (Ke.new (o := .lst [.int 0, .int 0, .int 5, .int 5, .int 0]) hlb2)
    refine ⟨hd, ca, p2, l2, _, [], 0, lb2, _, "sizes", rfl, sh2.ke kb2, by decide, shp_chain, upd_same, .inl ⟨rfl, 0, 0, 5, 5, 0, row, 1, 6, 6, rfl, hrow, rfl, by decide, by decide, by decide, by rw [chain_len.1]; decide, chain_bad⟩, fun H21 k21 => ⟨rfl, _, rfl, ifNT rfl (stepT ?_)⟩⟩
    have kk21 := kb2.trans k21
    refine ⟨_, rfl, (by show 2 ≤ sizeLine; decide), fun lc2 hlc2 => ?_⟩
    have kc2 := kk21.trans (Ke.new (o := .lst [.int 0, .int 5]) hlc2)
    refine ⟨hd, ca, p2, l2, _, [], 2, lc2, _, "sizes", rfl, sh2.ke kc2, by decide, shp_chain, upd_same, .inr (.inl ⟨rfl, 0, 5, cro, 1, 6, 6, rfl, hcro, by rw [chain_len.1]; decide, rfl, by decide, chain_bad⟩), fun H22 k22 => ⟨rfl, _, rfl, ifNT rfl ?_⟩⟩
    have kk22 := kc2.trans k22
    refine ⟨_, rfl, (by show 5 ≤ sizeLine; decide), fun ld2 hld2 => ?_⟩
    have kd2 := kk22.trans (Ke.new (o := .lst [.int 0, .int 0, .int 6, .int 0, .int 0]) hld2)
    refine ⟨hd, ca, p2, l2, _, [], 0, ld2, _, "step", none, rfl, sh2.ke kd2, by decide, shp_chain, upd_same, .put1 (a := 1) (b := 6) (c := 6) (r1 := true) (r2 := false) (r3 := true) (r4 := true) (isV_int (by rw [chain_len.1]; decide)) rfl (isV_int (by decide)) (.inl ⟨6, rfl, by rfl⟩) (isV_int (by decide)) (isV_int (by rw [chain_len.1]; decide)) rfl, fun _ H23 k23 => ⟨rfl, _, rfl, ifNT rfl (stepT ?_)⟩, fun o' os' e => by cases e⟩
    have kk23 := kd2.trans k23
    have ofE := ofc.ke (k19.trans kk23)
    obtain ⟨dxo, vs, vm, vc, lk, ds, hqE, _⟩ := ofE.ex
    refine ⟨_, rfl, p2, dxp, _, rfl, kk23.at hpp, rfl, nilA ⟨hd, ca, p2, l2, _, [], rfl, sh2.ke kk23, fun dx9 q9 hp9 _ => ?_⟩⟩
    obtain rfl := shq (K := K) (kk23.at hpp) hp9
    refine ⟨_, rfl, ⟨pc, pc, dxo, dxo, _, _, rfl, rfl, hqE, hqE, chainM oneO twoO, T.ocR, ofE, ofE, .ref T.a_RawOffice, fun dx fs e => .base (.ins e T.c_RawOffice r1 Eq.o2 Eq.o3 r4), r7⟩, fun H24 ext => ⟨true, rfl, iteT' rfl ?_⟩⟩
    have kk24 := kk23.trans (Ke.of ext)
    exact ⟨_, rfl, p2, dxp, _, rfl, kk24.at hpp, rfl, nilA ⟨hd, ca, p2, l2, _, [], rfl, sh2.ke kk24, rfl, by
      have e : decide (V.int (([] : List Ofc).length : Int) = V.int 0) = true := by rfl
      rw [e]; exact k _⟩⟩
end
end Fd
set_option Elab.async false
set_option linter.all false
set_option maxRecDepth 100000
set_option maxHeartbeats 8000000
namespace Fd
open PySem PySem.Spec PyProof.Rows L2 PySem.W
def sp_law (K : PySem.W.Frag) : Sp := fun xs H Q _ => ∃ (a : Addr) (ns : List Int), xs = [.ref a] ∧ SqL K H a (ns.map V.int) ∧ ns.length ≤ 63 ∧ ∀ H', Q (.bl true) H'
theorem good_add {o : Ofc} (d : Drw o) : Good o.sz (o.mv ++ [[]]) (o.cl ++ [[]]) := by
  have n5 := d.n5
  have en : (((o.mv ++ [[]]).length : Nat) : Int) = (o.mv.length : Int) + 1 := by rw [List.length_append, List.length_singleton]; omega
  refine ⟨d.g.s, ⟨by simp, by simp; omega, fun r hr => ?_⟩, ⟨by rw [en, List.length_append, List.length_singleton]; have := d.g.c.1; omega, fun r hr => ?_⟩⟩
  · rw [en]
    rcases List.mem_append.mp hr with y | y
    · obtain ⟨h1, h2, h3⟩ := d.g.m.2.2 r y
      exact ⟨fun m hm => (h1 m hm).mono (by omega), h2, h3⟩
    · rw [List.mem_singleton.mp y]; exact ⟨(fun m hm => by cases hm), .nil, by decide⟩
  · rcases List.mem_append.mp hr with y | y
    · exact d.g.c.2 r y
    · rw [List.mem_singleton.mp y]; exact ⟨(fun m hm => by cases hm), .nil, by decide⟩
theorem shp_add {o : Ofc} (d : Drw o) : Shp ⟨o.sz, o.mv ++ [[]], o.cl ++ [[]]⟩ where
  s3 := d.g.s.1
  n1 := by simp
  n2 := by have := d.n5; simp; omega
  cl := by have := d.shp.cl; simp; omega
  rw_ := fun r hr => by
    rcases List.mem_append.mp hr with y | y
    · exact d.shp.rw_ r y
    · rw [List.mem_singleton.mp y]; exact ⟨by decide, fun m hm => by cases hm⟩
  rc := fun r hr => by
    rcases List.mem_append.mp hr with y | y
    · exact d.shp.rc r y
    · rw [List.mem_singleton.mp y]; decide
  sh := fun _ => (good_sh (good_add d)).2.2 d.g.s
section
variable {P : Program} {w : World} {K : PySem.W.Frag} {mg : Str → Option Value} {base : Heap} (T : Txt K mg) (Er : Err P K mg) (Eq : ErrQ Er) (htop : (P.main.scope.names.lookup ("super" : Str)).isSome = false)
include T Er Eq htop
theorem ok_law : KeepsAt P w K mg base callerA T.a_law T.d_law P_law (sp_law K) := by
  have ok_l_asked : ∀ _ : Txt K mg, FnOk P w K mg base CX0 10 T.a_l_asked T.d_l_asked P_l_asked (sp_asked K T.a_Shop) := fun _ => Fd.ok_l_asked T Er Eq htop
  have ok_l_bad : ∀ _ : Txt K mg, FnG P w K mg base 11 T.a_l_bad T.d_l_bad P_l_bad (sp_lbad K T.a_Shop T.a_Office) := fun _ => ok_l_bad_ T Er Eq htop
  have ok_l_office : ∀ _ : Txt K mg, FnOk P w K mg base CX0 7 T.a_l_office T.d_l_office P_l_office (sp_loffice T.a_Office) := fun _ => ok_l_office_ T Er htop
  have ok_l_beyond : ∀ _ : Txt K mg, FnOk P w K mg base CX0 11 T.a_l_beyond T.d_l_beyond P_l_beyond sp_beyond := fun _ => ok_l_beyond_ T Er Eq htop
  refine keeps_of T.F_law sc_law (fun vs H Q E h => ?_) (k := 12) ⟨rfl, by decide, by decide⟩ (fun cdv outer s H vs Q E hr h => ?_)
  · obtain ⟨a, ns, rfl, _⟩ := h; rfl
  · obtain ⟨sa, ns, rfl, hS, hl63, k⟩ := h
    have oc := T.oc
    have hgd : (callerA.deeper (envOfC "law" (defScope s_law) s.heap.objs.size T.a_law cdv)).guards = some [] := rfl
    have eO : Er.a_Office = T.a_Office := by
      have := Er.g_Office.symm.trans T.g_Office
      injection this with this
      injection this
    refine ⟨_, (pss_cons (ps_set (i := 1) sc_law.nd rfl (Or.inl rfl) (pe_call (ok_l_hand T) (hr.mono (by decide)) rfl T.g_l_hand T.k_l_hand T.b_l_hand .nil pass0 (pa_cons (pv 0) pa_nil)))
  (pss_cons (ps_set (i := 2) sc_law.nd rfl (Or.inl rfl) (pe_call (ok_l_office T) (hr.mono (by decide)) rfl T.g_l_office T.k_l_office T.b_l_office .nil pass0 (pa_cons (pv 1) (pa_cons (pe_call (ok_l_sizes T) (hr.mono (by decide)) rfl T.g_l_sizes T.k_l_sizes T.b_l_sizes .nil pass0 (pa_cons (pv 1) (pa_cons pe_int pa_nil))) (pa_cons pe_int pa_nil)))))
  (pss_cons (ps_for PassesOwn.never rfl (pi_range1 rfl T.n_range (pa_cons pe_int pa_nil)) (pg_name (i := 3) sc_law.nd rfl (Or.inl rfl)) (pss_one (ps_if (pt_not (pt_val (pe_callG (ok_l_bad T) (hr.mono (by decide)) hgd rfl T.g_l_bad T.k_l_bad T.b_l_bad (pa_cons (pv 1) (pa_cons (pe_make T.m_Shop (ok_Shop_init T) (hr.mono (by decide)) rfl T.g_Shop T.b_Shop_init .nil pass0 (pa_cons (pv 2) pa_nil)) pa_nil))))) (pss_one (ps_ret pe_bl)) pss_nil)))
  (pss_cons (ps_set (i := 4) sc_law.nd rfl (Or.inl rfl) (pe_make T.m_Shop (ok_Shop_init T) (hr.mono (by decide)) rfl T.g_Shop T.b_Shop_init .nil pass0 (pa_cons (pv 2) pa_nil)))
  (pss_cons (ps_if (PW.pt (pw_or (pt_cmpR op_ne (pe_call (ok_l_asked T) (hr.mono (by decide)) rfl T.g_l_asked T.k_l_asked T.b_l_asked .nil pass0 (pa_cons pe_int (pa_cons (pv 4) (pa_cons (pe_lst pa_nil) pa_nil)))) pe_str (nomark _)) (pw_or (pt_cmpR op_ne (pe_meth0 (pv 4) T.c_Shop T.t_Shop_depth (ok_Shop_depth T) (hr.mono (by decide)) T.b_Shop_depth .nil pass0) pe_int (nomark _)) (pw_or1 (pt_cmpR op_ne (pe_callB call_len (by rfl) T.n_len (by decide +kernel) (pa_cons (pe_fld (pe_meth0 (pv 4) T.c_Shop T.t_Shop_office (ok_Shop_office T) (hr.mono (by decide)) T.b_Shop_office .nil pass0) rfl) pa_nil)) (pe_op op_add (pe_callB call_len (by rfl) T.n_len (by decide +kernel) (pa_cons (pe_fld (pv 2) rfl) pa_nil)) pe_int) (nomark _)))))) (pss_one (ps_ret pe_bl)) pss_nil)
  (pss_one (ps_ret (pe_and (pe_cmpR op_eq (pe_call (ok_l_asked T) (hr.mono (by decide)) rfl T.g_l_asked T.k_l_asked T.b_l_asked .nil pass0 (pa_cons pe_int (pa_cons (pv 4) (pa_cons (pe_lst pa_nil) pa_nil)))) pe_str (nomark _)) (pe_and (pe_cmpR (op_eqG (rcG_ins (ok_Office_eq T) T.t_Office___eq__.at_ T.t_Office___eq__.fn T.b_Office_eq pass0) (hr.mono (by decide))) (pe_meth0 (pv 4) T.c_Shop T.t_Shop_office (ok_Shop_office T) (hr.mono (by decide)) T.b_Shop_office .nil pass0) (pv 2) (nomark _)) (pe_one (pe_call (ok_l_beyond T) (hr.mono (by decide)) rfl T.g_l_beyond T.k_l_beyond T.b_l_beyond .nil pass0 (pa_cons (pv 1) pa_nil)))))))))))), ?_⟩
    refine ⟨_, rfl, sa, ns, rfl, hS, hl63, fun hd ca H1 hhd hca k1 hA1 => ?_⟩
    refine ⟨_, rfl, _, rfl, hd, ca, 3, rfl, hA1, ⟨by decide, by decide⟩, fun v a b c H2 ha hb hc k2 hA2 hs => ?_⟩
    refine ⟨hd, ca, v, a, b, c, 3, rfl, hA2, hs, by omega, by omega, by omega, ⟨by decide, by decide⟩, fun q o H3 es gd nn rw_ cl k3 hA3 of => stepN ?_⟩
    have dr : Drw o := ⟨gd, by omega, rw_, cl⟩
    have st : ∀ {H' : Hp}, Ks (fun a => a = hd) H3 H' → Std K (fun a => a = hd) H' (.ref q) o := fun kk => ⟨q, _, rfl, oc, of.ke (Hd.ke kk)⟩
    clear hS k1 k2 hA1 hA2
    dsimp only
    refine ⟨3, rfl, by decide, by decide, for_range (fun i σ H' => (∃ s3, σ = [some (.ref sa), some (.ref hd), some (.ref q), s3, none]) ∧ Ks (fun a => a = hd) H3 H' ∧ HandAt H' hd ca) ⟨⟨_, rfl⟩, .refl, hA3⟩ ?_ ?_⟩
    · rintro i σ H4 hi ⟨⟨s3, rfl⟩, k4, hA4⟩
      refine ⟨_, rfl, _, rfl, nilA (mk_shop hA4 (st k4) fun p l H5 k5 sh hp mv => ?_)⟩
      refine nilA ⟨hd, ca, p, l, q, o, rfl, sh, hp, mv _ _ rfl (of.ke (Hd.ke k4)), dr, fun H6 k6 hA6 => ⟨true, rfl, iteF (stepT ⟨⟨_, rfl⟩, (k4.trans k5.ks).trans k6, hA6⟩)⟩⟩
    · rintro σ H4 ⟨⟨s3, rfl⟩, k4, hA4⟩
      refine ⟨_, rfl, nilA (mk_shop hA4 (st k4) fun p l H5 k5 sh hp mv => stepN ?_)⟩
      dsimp only
      obtain ⟨dx0, hp⟩ := hp
      have ofS := mv _ q rfl (of.ke (Hd.ke k4))
      have hl5 : H5 l = some (.lst []) := by
        obtain ⟨_, _, past, _, e2, _, e4⟩ := sh.ex
        cases e4
        exact e2
      refine ⟨_, rfl, by decide, fun la hla => ?_⟩
      have kla : Ke H5 (upd H5 la (.lst [])) := Ke.new hla
      refine ⟨hd, ca, p, l, o, [], 4, la, [], "let", _, rfl, sh.ke kla, by decide, dr.shp, upd_same, .add (good_add dr), (fun e => by cases e), fun o' os' e H6 kS sh6 mvd _ => ?_⟩
      cases e
      have hl6 : H6 l = some (.lst [.ref q]) := mvd rfl dx0 (.ref q) [] (kla.at hp) (kla.at hl5)
      have k56 : Ks (S3 hd p l) H5 H6 := kla.ks.trans kS
      have of6 := ofS.ke (Hd.ke k56)
      obtain ⟨dxo, vs, vm, vc, lk, ds, hq6, _, hm6, _⟩ := of6.ex
      have hq6 := (Hd.at hq6).2
      obtain ⟨mm, ms, rfl, hmm6, pm⟩ := hm6
      have hmm6 := (Hd.at hmm6).2
      refine ⟨rfl, _, rfl, ifNT rfl ?_⟩
      obtain ⟨dx6, v6, past6, hp6, hl6', _, _⟩ := sh6.ex
      refine ⟨_, rfl, p, dx6, _, rfl, hp6, rfl, nilA ⟨hd, ca, p, l, _, _, rfl, sh6, rfl, _, rfl, ifNT rfl ?_⟩⟩
      refine ⟨_, rfl, p, dx6, _, rfl, hp6, rfl, nilA ⟨hd, ca, p, l, _, _, rfl, sh6, fun dx7 q7 hp7 st7 => ?_⟩⟩
      obtain ⟨q7', C7, e7, oc7, of7⟩ := st7
      cases e7
      obtain ⟨dxo7, vs7, vm7, vc7, lk7, ds7, hq7, _, hm7, _⟩ := of7.ex
      have hq7 := (Hd.at hq7).2
      obtain ⟨mm7, ms7, rfl, hmm7, pm7⟩ := hm7
      have hmm7 := (Hd.at hmm7).2
      refine ⟨q7, C7, dxo7, _, _, rfl, hq7, oc7.c, oc7.n2, offF_m _ _ _ _, .ref mm7, _, rfl, .inr ⟨_, SqT.of hmm7, rfl⟩, _, rfl, q, _, dxo, _, _, rfl, hq6, oc.c, oc.n2, offF_m _ _ _ _, .ref mm, _, rfl, .inr ⟨_, SqT.of hmm6, rfl⟩, _, _, rfl, rfl, rfl, _, rfl, ?_⟩
      refine ifNT (by rw [plen pm7, plen pm, List.length_append]; rfl) (stepT ?_)
      -- taken back
      refine ⟨_, rfl, by decide, fun lb hlb => ?_⟩
      have klb : Ke H6 (upd H6 lb (.lst [])) := Ke.new hlb
      refine ⟨hd, ca, p, l, _, _, 5, lb, [], "let", _, rfl, sh6.ke klb, (by show 1 < 1000; decide), shp_add dr, upd_same, .back1 (os' := []) (o' := o) rfl, (fun e => by cases e), fun o' os' e H8 kS8 sh8 _ bk => ?_⟩
      cases e
      have hp8 : H8 p = some (.ins T.a_Shop dx6 (shF (.ref q) (.ref l))) := bk rfl dx6 v6 [] (.ref q) (klb.at hp6) (klb.at hl6)
      have of8 : OfAt T.a_Office H8 q o := (of6.ke (Hd.ke (klb.ks.trans kS8))).ke (Le.ke Hd.le)
      obtain ⟨dxo8, vs8, vm8, vc8, lk8, ds8, hq8, _⟩ := of8.ex
      refine ⟨rfl, true, by rw [decide_eq_true rfl], iteT' rfl ?_⟩
      refine ⟨_, rfl, p, dx6, _, rfl, hp8, rfl, nilA ⟨hd, ca, p, l, o, [], rfl, sh8, fun dx9 q9 hp9 _ => ?_⟩⟩
      obtain rfl := shq (K := K) hp8 hp9
      have o1 := Eq.o1
      have o4 := Eq.o4
      have o7 := Eq.o7
      rw [eO] at o1 o4 o7
      refine ⟨_, rfl, ⟨q, q, dxo8, dxo8, _, _, rfl, rfl, hq8, hq8, o, oc, of8, of8, .ref T.a_Office, fun dx fs e => .base (.ins e T.c_Office o1 Eq.o2 Eq.o3 o4), o7⟩, fun H9 ext => ⟨true, rfl, iteT' rfl ?_⟩⟩
      exact ⟨_, rfl, hd, ca, rfl, sh8.hA.ke (Ke.of ext), fun H' => k H'⟩
end
end Fd
set_option Elab.async false
set_option linter.all false
set_option maxRecDepth 100000
set_option maxHeartbeats 0
namespace Fd
open PySem PySem.Spec PyProof.Rows L2
theorem law_binds {K : PySem.W.Frag} {f : Addr} {fd : FuncData} (F : Fun K "law" "law" s_law f fd) (s : Shared) (u : Value) : BindsTo s fd ⟨[u], []⟩ [("_law_script", u)] := by
  obtain ⟨oc, od, kV, doc, pm, an, cdv, ct, osl, e, l, c⟩ := F.ex
  subst e
  exact .of_eq rfl
end Fd
open PySem PySem.W PySem.Calls PyProof.Rows
theorem PySem.Challenge.cw_falsedays_k90_shop_refused_holds : PySem.Challenge.rw_falsedays_k90_shop_refused.Holds := by
  w_on; o_law
  refine HandSHeadRun.head_any (r := OpenLaw.row PySem.Challenge.rw_falsedays_k90_shop_refused) (q := view (OpenLaw.row PySem.Challenge.rw_falsedays_k90_shop_refused).prog [77]) (H := Fd.hkk) (ob := Fd.obb) (M := 6000) (loose := Fd.looseL)
    (d := HandSHeadRun.topDef (OpenLaw.row PySem.Challenge.rw_falsedays_k90_shop_refused).prog 77) (kwd := []) Fd.obb_eq (by kernel_rfl) (fun s => by kernel_rfl) Fd.runn (by kernel_rfl) (by kernel_rfl) (by kernel_rfl) (by rfl) (by first | assumption | decide +kernel) (by decide +kernel) ⟨rfl, rfl, rfl, rfl, rfl, by decide +kernel⟩ ?hw ?hc
  case hw => w_witness2
  case hc =>
    refine Fd.walk_at (l := PySem.Challenge.rw_falsedays_k90_shop_refused) (n := 63) (x := "_law_script") rfl (by decide) (by kernel_rfl) ?F
    intro w mg fa h Y G hmg0
    obtain ⟨K, KX, c⟩ := Y
    have hmg : mg ("law" : PySem.Str) = some (.ref fa) := by
      have e : (HandSHeadRun.topDef (OpenLaw.row PySem.Challenge.rw_falsedays_k90_shop_refused).prog 77).name = ("law" : PySem.Str) := by kernel_rfl
      rw [← e]
      exact hmg0
    obtain ⟨T, _⟩ := Fd.txt_of KX G c.d
    obtain ⟨Er, Eq⟩ := Fd.err_of KX G c
    have e := hmg.symm.trans T.g_law
    cases e
    exact ⟨K, T.d_law, Fd.sp_law K, KX, Fd.law_binds T.F_law, fun H a ns hl _ hS => ⟨a, ns, rfl, hS, hl, fun _ => rfl⟩, fun base _ _ => Fd.ok_law T Er Eq (by decide +kernel)⟩
