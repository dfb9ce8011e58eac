import PyProof.Rows.All
import Wide.All
import OpenK.AllK
import Wide.FinOn
import HandS.ForMost
import HandS.WordsExc
import HandS.TupAny
import HandS.IsInst
import KE.SortData
import KE.LtData
import HandS.TupLe
import HandS.Deep
import HandS.More
import PyProof.Rows.ReprR
import PyProof.DictMoreH
import KE.KDictDisplayH
import KE.KDictWalk
import HandS.Conv
import HandS.Zip
import HandS.TupLen
import HandS.TupMul
import HandS.SetKeys
import HandS.HeadHook1
import PySem.Challenge.RW_falsedays_k89_whole_shop_by_own_list
import KE.KExcSuper
import HandS.Base
import HandS.Call
import HandS.Exc
import HandS.ExcInit
import HandS.ExcSuper
import HandS.Nested
import KE.DataMinMax
import KE.KExcIs
import HandS.ExcIs
import HandS.ExcOwn
import PyProof.Claim2Refuses
import HandS.ExcField
import HandS.HeadHook2
import KE.KStateDown
import HandS.Defaults
import HandS.Head0
import HandS.Head1
import HandS.Head2
import HandS.HeadEnd
import KE.SortCalls
import HandS.DictComp
import HandS.Walk
import HandS.Ends
import KE.KEqDeep
import PyProof.ReprLen
import HandS.OwnEq
set_option Elab.async false
set_option linter.all false
set_option maxRecDepth 100000
set_option maxHeartbeats 4000000
/-! A layer over HandS: what stays from one abstract heap to another, values told by data, readings run under a resource. -/
namespace Fd
open PySem PySem.Spec PyProof.Rows L2

/-! ### heaps: what stays -/
/-- all but the objects of S stays; tuples stay; nothing vanishes -/
structure Ks (S : Addr → Prop) (H H' : Hp) : Prop where
  keep : ∀ a o, ¬ S a → H a = some o → H' a = some o
  tup : ∀ a xs, H a = some (.tup xs) → H' a = some (.tup xs)
  there : ∀ a, H a ≠ none → H' a ≠ none

/-- nothing is excepted -/
abbrev No : Addr → Prop := fun _ => False
/-- all stays -/
abbrev Ke (H H' : Hp) : Prop := Ks No H H'

section
variable {S : Addr → Prop} {H H1 H2 H3 : Hp} {a p : Addr} {o : HO}
theorem Ks.refl : Ks S H H := ⟨fun _ _ _ h => h, fun _ _ h => h, fun _ h => h⟩
theorem Ks.trans (x : Ks S H H1) (y : Ks S H1 H2) : Ks S H H2 :=
  ⟨fun a o n h => y.keep a o n (x.keep a o n h), fun a xs h => y.tup a xs (x.tup a xs h), fun a h => y.there a (x.there a h)⟩
theorem Ke.ks (x : Ke H H1) : Ks S H H1 := ⟨fun a o _ h => x.keep a o (fun z => z) h, x.tup, x.there⟩
theorem Ke.at (x : Ke H H1) (h : H a = some o) : H1 a = some o := x.keep a o (fun z => z) h
theorem Ks.at (x : Ks No H H1) (h : H a = some o) : H1 a = some o := x.keep a o (fun z => z) h
theorem Ks.ks (x : Ks No H H1) : Ks S H H1 := Ke.ks x
theorem Ke.of (h : ∀ a o, H a = some o → H1 a = some o) : Ke H H1 := ⟨fun a o _ => h a o, fun a xs => h a _, fun a n => by
  cases e : H a with
  | none => exact absurd e n
  | some o => rw [h a o e]; simp⟩
theorem Ke.new (h : H p = none) : Ke H (upd H p o) := Ke.of fun a u e => by
  rw [upd_ne (ne_of_none e h)]; exact e
theorem Ks.free (x : Ks S H H1) (h : H1 p = none) : H p = none := by
  cases e : H p with
  | none => rfl
  | some o => exact absurd h (x.there p (by rw [e]; simp))
/-- an object that is no tuple is changed, a place of S -/
theorem Ks.mut (x : Ks S H H1) (s : S p) (h : ∀ xs, H1 p ≠ some (.tup xs)) : Ks S H (upd H1 p o) :=
  ⟨fun a u n e => by
    rw [upd_ne (fun z : a = p => n (by rw [z]; exact s))]; exact x.keep a u n e,
   fun a xs e => by
    have n : a ≠ p := fun z => by
      subst z; exact h xs (x.tup _ xs e)
    rw [upd_ne n]; exact x.tup a xs e,
   fun a n => by
    by_cases e : a = p
    · subst e; rw [upd_same]; simp
    · rw [upd_ne e]; exact x.there a n⟩
/-- .. or one that did not stand at the beginning -/
theorem Ks.mutNew (x : Ks S H H1) (h : H p = none) : Ks S H (upd H1 p o) :=
  ⟨fun a u n e => by rw [upd_ne (ne_of_none e h)]; exact x.keep a u n e,
   fun a xs e => by rw [upd_ne (ne_of_none e h)]; exact x.tup a xs e,
   fun a n => by
    by_cases e : a = p
    · subst e; rw [upd_same]; simp
    · rw [upd_ne e]; exact x.there a n⟩
theorem Ks.mono {S' : Addr → Prop} (x : Ks S H H1) (h : ∀ a, S a → S' a) : Ks S' H H1 := ⟨fun a o n => x.keep a o fun z => n (h a z), x.tup, x.there⟩
end

/-! ### values told by data -/
/-- a relation of values to data that hangs on the tuples alone -/
structure Tx (H H' : Hp) : Prop where
  tup : ∀ a xs, H a = some (.tup xs) → H' a = some (.tup xs)
theorem Tx.trans {H H1 H2 : Hp} (x : Tx H H1) (y : Tx H1 H2) : Tx H H2 := ⟨fun a xs h => y.tup a xs (x.tup a xs h)⟩
theorem Tx.refl {H : Hp} : Tx H H := ⟨fun _ _ h => h⟩
theorem Ks.tx {S : Addr → Prop} {H H1 : Hp} (x : Ks S H H1) : Tx H H1 := ⟨x.tup⟩

abbrev Rl (α : Type) := Hp → V → α → Prop
/-- it stays where tuples stay -/
def Stb {α : Type} (R : Rl α) : Prop := ∀ H H' v x, Tx H H' → R H v x → R H' v x
/-- it stays where all stays -/
def Sto {α : Type} (R : Rl α) : Prop := ∀ H H' v x, Ke H H' → R H v x → R H' v x
theorem Stb.sto {α : Type} {R : Rl α} (s : Stb R) : Sto R := fun H H' v x k h => s H H' v x k.tx h
/-- an int -/
def II : Rl Int := fun _ v n => v = .int n
/-- a bool -/
def BB : Rl Bool := fun _ v b => v = .bl b
/-- a tuple of ints -/
def TI : Rl (List Int) := fun H v ns => ∃ a, v = .ref a ∧ H a = some (.tup (ns.map V.int))
/-- a tuple of such -/
def TT {α : Type} (R : Rl α) : Rl (List α) := fun H v xs => ∃ a vs, v = .ref a ∧ H a = some (.tup vs) ∧ Paired (R H) vs xs
/-- a list of such -/
def LL {α : Type} (R : Rl α) : Rl (List α) := fun H v xs => ∃ a vs, v = .ref a ∧ H a = some (.lst vs) ∧ Paired (R H) vs xs
/-- a pair of such -/
def PP {α β : Type} (R : Rl α) (R' : Rl β) : Rl (α × β) := fun H v x => ∃ a u w, v = .ref a ∧ H a = some (.tup [u, w]) ∧ R H u x.1 ∧ R' H w x.2

theorem pimp {α β : Type} {F G : α → β → Prop} (f : ∀ a b, F a b → G a b) : ∀ {l : List α} {m : List β}, Paired F l m → Paired G l m
  | _, _, .nil => .nil
  | _, _, .cons h t => .cons (f _ _ h) (pimp f t)
/-- places of what is paired -/
theorem pget {α β : Type} {F : α → β → Prop} : ∀ {l : List α} {m : List β} {i : Nat} {y : β}, Paired F l m → m[i]? = some y → ∃ x, l[i]? = some x ∧ F x y
  | _, _, _, _, .nil, e => by simp at e
  | _, _, 0, _, .cons h _, e => by
    have e' := Option.some.inj (by simpa using e)
    subst e'
    exact ⟨_, rfl, h⟩
  | _, _, i + 1, y, .cons _ t, e => by
    obtain ⟨x, h1, h2⟩ := pget (i := i) (y := y) t (by simpa using e)
    exact ⟨x, by simpa using h1, h2⟩
theorem pgetL {α β : Type} {F : α → β → Prop} : ∀ {l : List α} {m : List β} {i : Nat} {x : α}, Paired F l m → l[i]? = some x → ∃ y, m[i]? = some y ∧ F x y
  | _, _, _, _, .nil, e => by simp at e
  | _, _, 0, _, .cons h _, e => by
    have e' := Option.some.inj (by simpa using e)
    subst e'
    exact ⟨_, rfl, h⟩
  | _, _, i + 1, x, .cons _ t, e => by
    obtain ⟨y, h1, h2⟩ := pgetL (i := i) (x := x) t (by simpa using e)
    exact ⟨y, by simpa using h1, h2⟩
theorem plen {α β : Type} {F : α → β → Prop} {l : List α} {m : List β} (p : Paired F l m) : l.length = m.length := Paired.length p
theorem patI {α β : Type} {F : α → β → Prop} {l : List α} {m : List β} {i : Int} {y : β} (p : Paired F l m) (e : atI m i = some y) : ∃ x, atI l i = some x ∧ F x y := by
  unfold atI at e ⊢
  rw [plen p]
  cases q : ixN m.length i with
  | none => rw [q] at e; cases e
  | some j =>
    rw [q] at e
    have e' : m[j]? = some y := e
    obtain ⟨x, h1, h2⟩ := pget p e'
    exact ⟨x, h1, h2⟩
theorem papp {α β : Type} {F : α → β → Prop} : ∀ {l l' : List α} {m m' : List β}, Paired F l m → Paired F l' m' → Paired F (l ++ l') (m ++ m')
  | _, _, _, _, .nil, q => q
  | _, _, _, _, .cons h t, q => .cons h (papp t q)
theorem pset {α β : Type} {F : α → β → Prop} {x : α} {y : β} (h : F x y) : ∀ {l : List α} {m : List β} (i : Nat), Paired F l m → Paired F (l.set i x) (m.set i y)
  | _, _, _, .nil => .nil
  | _, _, 0, .cons _ t => .cons h t
  | _, _, i + 1, .cons q t => .cons q (pset h i t)
theorem II.stb : Stb II := fun _ _ _ _ _ h => h
theorem BB.stb : Stb BB := fun _ _ _ _ _ h => h
theorem TI.stb : Stb TI := fun _ _ _ _ k ⟨a, e, h⟩ => ⟨a, e, k.tup a _ h⟩
theorem TT.stb {α : Type} {R : Rl α} (s : Stb R) : Stb (TT R) := fun _ _ _ _ k ⟨a, vs, e, h, p⟩ => ⟨a, vs, e, k.tup a _ h, pimp (fun v x r => s _ _ v x k r) p⟩
theorem PP.stb {α β : Type} {R : Rl α} {R' : Rl β} (s : Stb R) (s' : Stb R') : Stb (PP R R') := fun _ _ _ _ k ⟨a, u, w, e, h, p, q⟩ => ⟨a, u, w, e, k.tup a _ h, s _ _ _ _ k p, s' _ _ _ _ k q⟩
theorem LL.sto {α : Type} {R : Rl α} (s : Sto R) : Sto (LL R) := fun _ _ _ _ k ⟨a, vs, e, h, p⟩ => ⟨a, vs, e, k.at h, pimp (fun v x r => s _ _ v x k r) p⟩
theorem TT.sto {α : Type} {R : Rl α} (s : Sto R) : Sto (TT R) := fun _ _ _ _ k ⟨a, vs, e, h, p⟩ => ⟨a, vs, e, k.at h, pimp (fun v x r => s _ _ v x k r) p⟩

theorem pmap_int {H : Hp} : ∀ ns : List Int, Paired (II H) (ns.map V.int) ns
  | [] => .nil
  | _ :: ns => .cons rfl (pmap_int ns)
theorem paired_int {H : Hp} : ∀ {vs : List V} {ns : List Int}, Paired (II H) vs ns → vs = ns.map V.int
  | _, _, .nil => rfl
  | _, _, .cons h t => by
    have h' : _ = V.int _ := h
    rw [h', paired_int t]; rfl
theorem TI.tt {H : Hp} {v : V} {ns : List Int} : TI H v ns ↔ TT II H v ns :=
  ⟨fun ⟨a, e, h⟩ => ⟨a, _, e, h, pmap_int ns⟩, fun ⟨a, vs, e, h, p⟩ => ⟨a, e, by rw [h, paired_int p]⟩⟩

/-! ### data as the library takes it -/
def tI (ns : List Int) : PyData := .tuple (ns.map .int)
def Enc {α : Type} (R : Rl α) (e : α → PyData) : Prop := ∀ (K : PySem.W.Frag) H v x, R H v x → Dp K H v (e x)
theorem II.enc : Enc II .int := fun K H v x h => by
  have h' : v = .int x := h
  rw [h']; exact .int x
theorem BB.enc : Enc BB .bool := fun K H v x h => by
  have h' : v = .bl x := h
  rw [h']; exact .bl x
theorem dpAll_of {α : Type} {R : Rl α} {e : α → PyData} (en : Enc R e) {K : PySem.W.Frag} {H : Hp} : ∀ {vs : List V} {xs : List α}, Paired (R H) vs xs → DpAll K H vs (xs.map e)
  | _, _, .nil => .nil
  | _, _, .cons h t => .cons (en K H _ _ h) (dpAll_of en t)
theorem TT.enc {α : Type} {R : Rl α} {e : α → PyData} (en : Enc R e) : Enc (TT R) fun xs => .tuple (xs.map e) := fun K H v x ⟨a, vs, ev, h, p⟩ => by
  rw [ev]; exact .tup (SqT.of h) (dpAll_of en p)
theorem LL.enc {α : Type} {R : Rl α} {e : α → PyData} (en : Enc R e) : Enc (LL R) fun xs => .list (xs.map e) := fun K H v x ⟨a, vs, ev, h, p⟩ => by
  rw [ev]; exact .lst (SqL.of h) (dpAll_of en p)
theorem TI.enc : Enc TI tI := fun K H v x h => TT.enc II.enc K H v x (TI.tt.mp h)
theorem PP.enc {α β : Type} {R : Rl α} {R' : Rl β} {e : α → PyData} {e' : β → PyData} (en : Enc R e) (en' : Enc R' e') : Enc (PP R R') fun x => .tuple [e x.1, e' x.2] := fun K H v x ⟨a, u, w, ev, h, p, q⟩ => by
  rw [ev]; exact .tup (SqT.of h) (.cons (en K H _ _ p) (.cons (en' K H _ _ q) .nil))

/-! ### running readings -/
/-- a resource: the objects that may change, a word that stays while they do -/
structure Res where
  S : Addr → Prop
  W : Hp → Prop
  st : ∀ H H', (∀ a o, S a → H a = some o → H' a = some o) → Tx H H' → Ks No H H' → W H → W H'
/-- nothing changes -/
def pu : Res := ⟨No, fun _ => True, fun _ _ _ _ _ _ => True.intro⟩

/-- from every heap that comes behind H the reading t gives something of which P tells -/
def Rn (ρ : Res) {α : Type} (t : Hp → (α → Hp → Prop) → Prop) (H : Hp) (P : α → Hp → Prop) : Prop :=
  ∀ H1, Ks ρ.S H H1 → ρ.W H1 → ∀ Q : α → Hp → Prop, (∀ x H2, Ks ρ.S H1 H2 → ρ.W H2 → P x H2 → Q x H2) → t H1 Q

section
variable {ρ : Res} {α β : Type} {t : Hp → (α → Hp → Prop) → Prop} {u : α → Hp → (β → Hp → Prop) → Prop} {H H' : Hp} {P P' : α → Hp → Prop} {P2 : β → Hp → Prop}
theorem Rn.go (r : Rn ρ t H P) (w : ρ.W H) {Q : α → Hp → Prop} (k : ∀ x H2, Ks ρ.S H H2 → ρ.W H2 → P x H2 → Q x H2) : t H Q := r H .refl w Q k
theorem Rn.mono (r : Rn ρ t H P) (k : Ks ρ.S H H') : Rn ρ t H' P := fun H1 k1 w Q q => r H1 (k.trans k1) w Q q
theorem Rn.imp (r : Rn ρ t H P) (h : ∀ x H2, Ks ρ.S H H2 → ρ.W H2 → P x H2 → P' x H2) : Rn ρ t H P' := fun H1 k1 w Q q => r H1 k1 w Q fun x H2 k2 w2 p => q x H2 k2 w2 (h x H2 (k1.trans k2) w2 p)
theorem Rn.bind (r : Rn ρ t H P) (h : ∀ x H2, Ks ρ.S H H2 → ρ.W H2 → P x H2 → Rn ρ (u x) H2 P2) : Rn ρ (fun H Q => t H fun x H1 => u x H1 Q) H P2 := fun H1 k1 w Q q =>
  r H1 k1 w _ fun x H2 k2 w2 p => h x H2 (k1.trans k2) w2 p H2 .refl w2 Q fun y H3 k3 w3 p3 => q y H3 (k2.trans k3) w3 p3
theorem Rn.ret (h : ∀ H1, Ks ρ.S H H1 → ρ.W H1 → P a H1) : Rn ρ (fun H Q => Q a H) H P := fun H1 k1 w Q q => q a H1 .refl w (h H1 k1 w)
end
/-! ### what stays, of a value -/
/-- P stays under the resource -/
def Sp_ (ρ : Res) {α : Type} (P : α → Hp → Prop) : Prop := ∀ x H H', Ks ρ.S H H' → P x H → P x H'
theorem Stb.sp {ρ : Res} {α : Type} {R : Rl α} (s : Stb R) (x : α) : Sp_ ρ fun v H => R H v x := fun v H H' k h => s H H' v x k.tx h
theorem Sto.sp {α : Type} {R : Rl α} (s : Sto R) (x : α) : Sp_ pu fun v H => R H v x := fun v H H' k h => s H H' v x k h
theorem eq_sp {ρ : Res} {α : Type} (x : α) : Sp_ ρ fun v _ => v = x := fun _ _ _ _ h => h

/-! ### expressions -/
section
variable {ρ : Res} {σ : L2.St} {H : Hp} {ta tb tc te : TE} {P Pa Pb : V → Hp → Prop} {v x y : V} {r : R2}
theorem Res.ke (k : Ke H H') (w : ρ.W H) : ρ.W H' := ρ.st H H' (fun a o _ h => k.at h) k.tx k w
theorem ev_var {i : Nat} (h : σ[i]? = some (some v)) (p : ∀ H1, Ks ρ.S H H1 → ρ.W H1 → P v H1) : Rn ρ (tVar i σ) H P := fun H1 k w Q q => ⟨v, h, q v H1 .refl w (p H1 k w)⟩
/-- a name whose value is told -/
theorem ev_v {i : Nat} {α : Type} {R : Rl α} {z : α} (h : σ[i]? = some (some v)) (hr : R H v z) (s : Sp_ ρ fun v H => R H v z) : Rn ρ (tVar i σ) H fun v H => R H v z := ev_var h fun H1 k _ => s v H H1 k hr
/-- the very value -/
theorem ev_x {i : Nat} (h : σ[i]? = some (some v)) : Rn ρ (tVar i σ) H fun u _ => u = v := ev_var h fun _ _ _ => rfl
theorem ev_c (p : ∀ H1, Ks ρ.S H H1 → ρ.W H1 → P v H1) : Rn ρ (tC v σ) H P := fun H1 k w Q q => q v H1 .refl w (p H1 k w)
theorem ev_k : Rn ρ (tC v σ) H fun u _ => u = v := ev_c fun _ _ _ => rfl
theorem ev_op (ha : Rn ρ (ta σ) H Pa) (sa : Sp_ ρ Pa) (hb : Rn ρ (tb σ) H Pb) (hr : ∀ x y H2, Ks ρ.S H H2 → ρ.W H2 → Pa x H2 → Pb y H2 → Rn ρ (r x y) H2 P) : Rn ρ (tOp r ta tb σ) H P := fun H1 k w Q q =>
  ha H1 k w _ fun x H2 k2 w2 p2 => hb H2 (k.trans k2) w2 _ fun y H3 k3 w3 p3 => hr x y H3 ((k.trans k2).trans k3) w3 (sa x H2 H3 k3 p2) p3 H3 .refl w3 Q fun z H4 k4 w4 p4 => q z H4 ((k2.trans k3).trans k4) w4 p4
theorem rn_I0 {g : Int → Int → V} {i j : Int} (ex : x = .int i) (ey : y = .int j) : Rn ρ (rI0 g x y) H fun v _ => v = g i j := fun H1 k w Q q => ⟨i, j, ex, ey, q _ H1 .refl w rfl⟩
theorem rn_I {C : Int → Int → Prop} {g : Int → Int → V} {i j : Int} (ex : x = .int i) (ey : y = .int j) (c : C i j) : Rn ρ (rI C g x y) H fun v _ => v = g i j := fun H1 k w Q q => ⟨i, j, ex, ey, c, q _ H1 .refl w rfl⟩
/-- two ints -/
theorem ev_I0 {g : Int → Int → V} {i j : Int} (ha : Rn ρ (ta σ) H fun v _ => v = .int i) (hb : Rn ρ (tb σ) H fun v _ => v = .int j) : Rn ρ (tOp (rI0 g) ta tb σ) H fun v _ => v = g i j :=
  ev_op ha (eq_sp _) hb fun _ _ _ _ _ e1 e2 => rn_I0 e1 e2
theorem ev_I {C : Int → Int → Prop} {g : Int → Int → V} {i j : Int} (c : C i j) (ha : Rn ρ (ta σ) H fun v _ => v = .int i) (hb : Rn ρ (tb σ) H fun v _ => v = .int j) : Rn ρ (tOp (rI C g) ta tb σ) H fun v _ => v = g i j :=
  ev_op ha (eq_sp _) hb fun _ _ _ _ _ e1 e2 => rn_I e1 e2 c
theorem ev_un {g : Int → V} {i : Int} (ha : Rn ρ (ta σ) H fun v _ => v = .int i) : Rn ρ (tUn (rU g) ta σ) H fun v _ => v = g i := fun H1 k w Q q =>
  ha H1 k w _ fun x H2 k2 w2 e => ⟨i, e, q _ H2 k2 w2 rfl⟩
theorem ev_is {z z' : V} (h : Rn ρ (te σ) H fun v _ => v = z) (e : z = z') : Rn ρ (te σ) H fun v _ => v = z' := h.imp fun x _ _ _ p => p.trans e
/-- an item of a tuple -/
theorem ev_ixT {K : PySem.W.Frag} {α : Type} {R : Rl α} {xs : List α} {i : Int} {z : α} (ha : Rn ρ (ta σ) H fun v H => TT R H v xs) (s : Sp_ ρ fun v H => TT R H v xs) (hb : Rn ρ (tb σ) H fun v _ => v = .int i) (hi : atI xs i = some z) :
    Rn ρ (tOp (rIxT K) ta tb σ) H fun v H => R H v z := ev_op ha s hb fun x y H2 k2 w2 p e => fun H3 k3 w3 Q q => by
  obtain ⟨a, vs, ex, ha', pr⟩ := s x H2 H3 k3 p
  obtain ⟨v, hv, rv⟩ := patI pr hi
  exact ⟨a, vs, i, v, ex, e, SqT.of ha', hv, q v H3 .refl w3 rv⟩
end
end Fd
set_option Elab.async false
set_option linter.all false
set_option maxRecDepth 100000
set_option maxHeartbeats 4000000
/-! Rules that the hand layer lacks: sorted and min of data, comparisons of data, repr of data, dicts with tuple keys. -/
namespace Fd
open PySem PySem.Spec PyProof.Rows L2 PySem.W

theorem room65 {k : Nat} {A : Around} (r : Room k A) : A.units + 65 < cLine := by have := r.un; omega

section
variable {X : Cx}
/-- items that read as data, and their values -/
theorem each_of {β : Type} {R : V → β → Prop} : ∀ {vs : List V} {us : List Value} {bs : List β}, Vals vs us → Paired R vs bs → EachIs (fun u b => ∃ v, RelV v u ∧ R v b) us bs
  | _, _, _, .nil, .nil => .nil
  | _, _, _, .cons r t, .cons h q => .cons ⟨_, r, h⟩ (each_of t q)
theorem each_back {β : Type} {R : V → β → Prop} : ∀ {us : List Value} {bs : List β}, EachIs (fun u b => ∃ v, RelV v u ∧ R v b) us bs → ∃ vs, Vals vs us ∧ Paired R vs bs
  | _, _, .nil => ⟨[], .nil, .nil⟩
  | _, _, .cons ⟨v, r, h⟩ t => by
    obtain ⟨vs, q1, q2⟩ := each_back t
    exact ⟨v :: vs, .cons r q1, .cons h q2⟩
/-- what sorted asks of its items -/
structure SortOk {β : Type} (enc : β → PyData) (bs : List β) : Prop where
  al : AllAlike (bs.map enc)
  so : Sortable (bs.map enc)
  dp : ∀ b ∈ bs, (enc b).depth ≤ 60
/-- sorted(xs) of a list of data -/
def rSortD (K : Frag) : List V → Hp → VK → Prop := fun xs H Q => ∃ (a : Addr) (vs : List V) (β : Type) (R : V → β → Prop) (enc : β → PyData) (bs : List β), xs = [.ref a] ∧ SqL K H a vs ∧ Paired R vs bs ∧ (∀ v b, R v b → Dp K H v (enc b)) ∧ SortOk enc bs ∧
  ∀ p out, H p = none → Paired R out (bs.mergeSort (dataLe false enc)) → Q (.ref p) (upd H p (.lst out))
theorem cr_sortedD {k : Nat} (hr : Room k X.A) : CallR X (.builtin "sorted") (rSortD X.K) := by
  intro pins s σ H xs us Q I r h
  obtain ⟨a, vs, β, R, enc, bs, rfl, hs, pr, hd, ok, q⟩ := h
  obtain ⟨its, rv, hl, hz⟩ := I.list hs
  obtain ⟨u, rfl, ru⟩ := vals1 r
  obtain rfl : u = Value.ref a := ru
  have hlen : bs.length ≤ sizeLine := by rw [← plen pr]; exact hz
  have E := each_of rv pr
  refine sorted_data hl.isList E (E.mono fun u b ⟨v, r1, r2⟩ => Dp.reads I (enc b) v u (hd v b r2) r1) ok.al ok.so hlen (fun b hb => ?_) fun out ho eo => ?_
  · have := ok.dp b hb
    have := hr.un
    show X.A.units + 2 + _ < _
    omega
  · obtain ⟨c, hc⟩ := sortedAll_at s.heap its out.toArray
    obtain ⟨ws, w1, w2⟩ := each_back eo
    have hw : ws.length ≤ sizeLine := by rw [w1.length, ho]; exact hlen
    have ob : ObjOk X.prog X.w (upd H (s.heap.objs.size + 1) (.lst ws)) (sortedAll s.heap its out.toArray) (s.heap.objs.size + 1) (.lst ws) := ⟨hw, out, c, w1, hc⟩
    exact ⟨.ref (s.heap.objs.size + 1), _, I.laid (t' := s.toks) (fun b o e => sortedAll_old e) (Nat.le_succ _) ob, rfl, q _ ws (I.hok.fresh (Nat.le_succ _)) w2⟩

/-! ### < and >= of data -/
def rLtD (K : Frag) : R2 := fun x y H Q => ∃ d e, Dp K H x d ∧ Dp K H y e ∧ alike d e = true ∧ d ≠ .none ∧ d.depth ≤ 60 ∧ Q (.bl (dataLt d e)) H
theorem op_ltD {k : Nat} (hr : Room k X.A) : OpR X (compareOp .Lt) (rLtD X.K) := by
  intro pins s σ H x y v u Q I rx ry h
  obtain ⟨d, e, hd, he, al, nn, dp, q⟩ := h
  obtain ⟨as, r1⟩ := Dp.reads I d x v hd rx
  obtain ⟨bs, r2⟩ := Dp.reads I e y u he ry
  have hu : X.A.units + min d.depth e.depth < cLine := by have := hr.un; omega
  exact rcLt_alike d e X.A s v u as bs r1 r2 al nn hu X.prog X.w X.xe _ ⟨.bl _, H, I, rfl, q⟩

/-- x >= y: two ints, or two tuples of ints -/
def geT (ns ms : List Int) : Bool := !decide (ns < ms)
def rGeD (K : Frag) : R2 := fun x y H Q => (∃ i j, x = .int i ∧ y = .int j ∧ Q (.bl (decide (j ≤ i))) H) ∨
  ∃ a b ns ms, x = .ref a ∧ y = .ref b ∧ SqT K H a (ns.map V.int) ∧ SqT K H b (ms.map V.int) ∧ Q (.bl (geT ns ms)) H
theorem lex_shift (e r : Nat → Bool) (z : Bool) : ∀ (k i : Nat), Ob.lexAt e r z (i + 1) k = Ob.lexAt (fun j => e (j + 1)) (fun j => r (j + 1)) z i k
  | 0, _ => rfl
  | k + 1, i => by rw [Ob.lexAt_succ, Ob.lexAt_succ, lex_shift e r z k (i + 1)]
theorem lex_ge : ∀ ns ms : List Int, Ob.lexAt (fun j => decide (ns.getD j 0 = ms.getD j 0)) (fun j => decide (ms.getD j 0 ≤ ns.getD j 0)) (decide (ns.length ≥ ms.length)) 0 (min ns.length ms.length) = geT ns ms
  | [], [] => rfl
  | [], m :: ms => by
    have h : ([] : List Int) < m :: ms := List.nil_lt_cons m ms
    show decide (0 ≥ (m :: ms).length) = !decide (([] : List Int) < m :: ms)
    rw [decide_eq_true h]
    simp
  | n :: ns, [] => by
    have h : ¬ (n :: ns : List Int) < [] := List.not_lt_nil _
    show decide ((n :: ns).length ≥ 0) = !decide ((n :: ns : List Int) < [])
    rw [decide_eq_false h]
    simp
  | n :: ns, m :: ms => by
    have ih := lex_ge ns ms
    have em : min (n :: ns).length (m :: ms).length = min ns.length ms.length + 1 := by simp only [List.length_cons]; omega
    rw [em, Ob.lexAt_succ, lex_shift]
    have e1 : decide ((n :: ns).length ≥ (m :: ms).length) = decide (ns.length ≥ ms.length) := by simp
    rw [e1]
    show (if decide (n = m) = true then Ob.lexAt (fun j => decide (ns.getD j 0 = ms.getD j 0)) (fun j => decide (ms.getD j 0 ≤ ns.getD j 0)) (decide (ns.length ≥ ms.length)) 0 (min ns.length ms.length) else decide (m ≤ n)) = _
    rw [ih]
    unfold geT
    by_cases c : n = m
    · subst c
      rw [if_pos (decide_eq_true rfl)]
      congr 1
      exact decide_eq_decide.mpr (by rw [List.cons_lt_cons_iff]; constructor
                                     · intro h; exact Or.inr ⟨rfl, h⟩
                                     · rintro (h | ⟨_, h⟩)
                                       · omega
                                       · exact h)
    · rw [if_neg (by simp [c])]
      have h : (n :: ns : List Int) < m :: ms ↔ n < m := by
        rw [List.cons_lt_cons_iff]
        constructor
        · rintro (h | ⟨h, _⟩)
          · exact h
          · exact absurd h c
        · exact Or.inl
      rw [decide_eq_decide.mpr h]
      by_cases q : n < m
      · rw [decide_eq_true q, decide_eq_false (by omega)] <;> rfl
      · rw [decide_eq_false q, decide_eq_true (by omega)] <;> rfl
theorem op_geD {k : Nat} (hr : Room k X.A) : OpR X (compareOp .GtE) (rGeD X.K) := by
  intro pins s σ H x y v u Q I rx ry h
  rcases h with ⟨i, j, ex, ey, q⟩ | ⟨a, b, ns, ms, rfl, rfl, ha, hb, q⟩
  · exact op_ge pins s σ H x y v u Q I rx ry ⟨i, j, ex, ey, q⟩
  · cases rx
    cases ry
    obtain ⟨its, r1, p1, _⟩ := I.tuple ha
    obtain ⟨jts, r2, p2, _⟩ := I.tuple hb
    have i1 : IntsAre its ns := Vals.ints r1
    have i2 : IntsAre jts ms := Vals.ints r2
    have s1 : its.toArray.size = ns.length := by rw [List.size_toArray]; exact i1.length
    have s2 : jts.toArray.size = ms.length := by rw [List.size_toArray]; exact i2.length
    have a1 : ∀ j (h1 : j < its.toArray.size), ∃ t, its.toArray[j] = .int (ns.getD j 0) t := fun j h1 => IntsAre.int_at i1 _ _ (by simp at h1; simp [h1])
    have a2 : ∀ j (h1 : j < jts.toArray.size), ∃ t, jts.toArray[j] = .int (ms.getD j 0) t := fun j h1 => IntsAre.int_at i2 _ _ (by simp at h1; simp [h1])
    have G := Ob.RcOp.tuples_ge (A := X.A) (s := s) (e := fun j => decide (ns.getD j 0 = ms.getD j 0)) (r := fun j => decide (ms.getD j 0 ≤ ns.getD j 0)) p1 p2 hr.units0 (fun j h1 h2 => by
      obtain ⟨t, e1⟩ := a1 j h1
      obtain ⟨t', e2⟩ := a2 j h2
      rw [e1, e2, show decide (ns.getD j 0 = ms.getD j 0) = (ns.getD j 0 == ms.getD j 0) from by rw [Bool.beq_eq_decide_eq]]
      exact SeqAt.EqAt.int_int _ _ _ _) (fun j h1 h2 _ => by
      obtain ⟨t, e1⟩ := a1 j h1
      obtain ⟨t', e2⟩ := a2 j h2
      rw [e1, e2]
      exact Ob.RcOp.ge_int _ _ _ _)
    rw [s1, s2, lex_ge] at G
    exact G X.prog X.w X.xe (EP X pins σ Q) ⟨.bl _, H, I, rfl, q⟩

/-! ### dicts whose keys are tuples -/
/-- d.setdefault(key, x), the key a tuple -/
def tDSetdT (td ty tx : TE) : TE := fun σ H Q => td σ H fun x H1 => ∃ a, x = .ref a ∧ IsD H1 a ∧ ty σ H1 fun y H2 => tx σ H2 fun z H3 => ∃ (kvs : List (List Key × V)) (k : List Key) (b : Addr), H3 a = some (.dT kvs) ∧ y = .ref b ∧ H3 b = some (.tup (k.map kV)) ∧
  kvs.length < sizeLine ∧ (∀ v, valV kvs k = some v → Q v H3) ∧ (valV kvs k = none → Q z (upd H3 a (.dT (putK kvs k z))))
theorem d_setdT {pins : List (Addr × Obj)} {σ : L2.St} {H : Hp} {s : Shared} {a b : Addr} {r : Value} {d : V} {k : List Key} {A : Around} {E : Value → Shared → Prop} {kvs : List (List Key × V)} {Q : Value → Shared → Prop} (hu : A.units + 1 < cLine) (I : Inv X pins σ H s)
    (e : H a = some (.dT kvs)) (eb : H b = some (.tup (k.map kV))) (rd : RelV d r) (hl : kvs.length < sizeLine)
    (h1 : ∀ v, valV kvs k = some v → ∀ (w' : Value) (s' : Shared), Inv X pins σ H s' → RelV v w' → Q w' s') (h2 : valV kvs k = none → ∀ (w' : Value) (s' : Shared), Inv X pins σ (upd H a (.dT (putK kvs k d))) s' → RelV d w' → Q w' s') :
    wpAny (model X.prog X.w) A (call (.builtin "dict.setdefault") [.ref a, .ref b, r]) Q E s := by
  obtain ⟨z, hd, xs, rel, dd⟩ := dt_of I.hok e
  have hz : xs.length ≤ sizeLine := by rw [← Paired.length rel]; exact z
  have at_ := rel.val k
  refine call_setdefault_heap (hsz := hz) (tupleKind_room_in1 hu) (key_of I.hok eb) hd dd (fun p hp => ?_) fun hn h' dd' hs => ?_
  · rw [hp] at at_
    cases q0 : valV kvs k with
    | none => rw [q0] at at_; exact (show False from at_).elim
    | some v0 =>
      rw [q0] at at_
      exact h1 v0 q0 _ _ (I.tok _) at_
  · rw [hn] at at_
    cases q0 : valV kvs k with
    | some v0 => rw [q0] at at_; exact (show False from at_).elim
    | none =>
      have hl2 : (putK kvs k d).length ≤ sizeLine := by have := length_putK kvs k d; omega
      obtain ⟨q, es, ep, hq, g2, g3, g4, _, g5⟩ := dd'
      refine h2 q0 _ _ (d_write (t' := s.toks + _) I (by rw [e]; exact True.intro) hs ⟨q, hq⟩ ⟨hl2, hd, _, (rel.put k eb rd).keeps fun c ys ec => ?_, q, es, ep, hq, g2, g3, g4, g5⟩) rd
      rw [upd_ne (ne_of ec e (fun z => nomatch z))]
      exact ec
theorem pe_dsetdT {o e f : Expr} {td ty tx : TE} {apos cpos : Pos} (hu : X.A.units + 1 < cLine) (ho : PE X o td) (he : PE X e ty) (hf : PE X f tx) (m : M2 X o "setdefault" apos e f cpos) :
    PE X (.Call (.Attribute o "setdefault" apos) [e, f] [] cpos) (tDSetdT td ty tx) := by
  refine ⟨fun pins s σ H Q I h => ?_⟩
  refine wpAny_Call_method m.base m.few m.line PySem.F.plainAttrs_dict PySem.F.slot_dict_setdefault PySem.F.type_dict_setdefault (thn (ho.run pins s σ H _ I h) fun u s1 ⟨x, H1, I1, rx, a, ex, d, q1⟩ => ?_)
  subst ex
  obtain rfl : u = Value.ref a := rx
  obtain ⟨t1, t2, _⟩ := isD_at I1 d
  refine ⟨t1, t2, ?_⟩
  rw [m.trees]
  refine Calls.callWith_builtin rfl (Calls.evalArgs_plain (Calls.spliced_cons (thn (he.run pins s1 σ H1 _ I1 q1) fun iv s2 ⟨y, H2, I2, ry, q2⟩ => Calls.spliced_cons (thn (hf.run pins s2 σ H2 _ I2 q2) fun fv s3 ⟨z, H3, I3, rz, q3⟩ => Calls.spliced_nil ?_))))
  obtain ⟨kvs, k, b, ea, rfl, eb, hl, q4, q5⟩ := q3
  cases ry
  exact d_setdT hu I3 ea eb rz hl (fun v hv w' s4 I4 rw' => ⟨v, _, I4, rw', q4 v hv⟩) fun hn w' s4 I4 rw' => ⟨z, _, I4, rw', q5 hn⟩
/-! ### {(..): v}, one pair -/
def tDispT (tk tv : TE) : TE := fun σ H Q => ∀ p, H p = none → tk σ (upd H p (.dT [])) fun y H1 => tv σ H1 fun z H2 => H2 p = some (.dT []) ∧ ∃ (k : List Key) (b : Addr), y = .ref b ∧ H2 b = some (.tup (k.map kV)) ∧ Q (.ref p) (upd H2 p (.dT [(k, z)]))
theorem pe_dispT {ke ve : Expr} {pos : Pos} {tk tv : TE} (hu : X.A.units + 1 < cLine) (hk : PE X ke tk) (hv : PE X ve tv) : PE X (.Dict [some ke] [ve] pos) (tDispT tk tv) := by
  refine ⟨fun pins s σ H Q I q => ?_⟩
  have hn := I.hok.fresh (Nat.le_refl s.heap.objs.size)
  have I1 := I.laid (a := s.heap.objs.size) (o := .dT []) (h' := s.heap.push { cls := .type "dict", data := .dict #[] }) (t' := s.toks) (fun _ _ q => Heap.get?_push_of_some _ q) (Nat.le_refl _) (dt_empty s.heap I.big)
  have hp : PPs X pos [some ke] [ve] [(tk, tv)] := pps_cons hk hv pps_nil
  rw [arm_eval_Dict, zip_pairTrees [some ke] [ve] X.env pos rfl rfl, dictDisplay_pairs _ (by intro z; have := congrArg List.length z; rw [pairTrees_length _ _ _ _ rfl rfl] at this; cases this) (by rw [pairTrees_length _ _ _ _ rfl rfl]; show 1 < 17; decide)]
  refine wpAny_bind (wpAny_standAt (wpAny_bind (wpAny_subDictH (knd := tupleKind (mixKind X.prog X.w)) (Q := fun d s' => wpAny (model X.prog X.w) X.A (pure (Value.ref d)) (EP X pins σ Q) X.xe s') (show X.A.units < cLine by omega) (by rw [pairTrees_length _ _ _ _ rfl rfl]; show 1 ≤ 15; decide)
    (thn (hp.run pins _ σ _ (fun ps H2 => match ps with | [(y, z)] => H2 s.heap.objs.size = some (.dT []) ∧ ∃ (k : List Key) (b : Addr), y = .ref b ∧ H2 b = some (.tup (k.map kV)) ∧ Q (.ref s.heap.objs.size) (upd H2 s.heap.objs.size (.dT [(k, z)])) | _ => False) I1 (q _ hn)) fun ws s2 h2 => ?_))))
  obtain ⟨ps, H2, I2, rel, q2⟩ := h2
  obtain ⟨y, z, rfl, e, k, b, rfl, eb, q2⟩ : ∃ y z, ps = [(y, z)] ∧ H2 s.heap.objs.size = some (.dT []) ∧ ∃ (k : List Key) (b : Addr), y = .ref b ∧ H2 b = some (.tup (k.map kV)) ∧ Q (.ref s.heap.objs.size) (upd H2 s.heap.objs.size (.dT [(k, z)])) := by
    match ps, q2 with
    | [(y, z)], q2 => exact ⟨y, z, rfl, q2⟩
  cases rel with
  | @cons _ r _ _ h t =>
    cases t
    obtain ⟨r1, r2⟩ := r
    obtain ⟨h1, h2⟩ := h
    have h1' : r1 = Value.ref b := h1
    subst h1'
    obtain ⟨z0, hd, xs0, r0, dd⟩ := dt_of I2.hok e
    cases r0
    have ndb : b ≠ s.heap.objs.size := ne_of eb e (fun z => nomatch z)
    refine ⟨[(k, b, r2)], ⟨rfl, rfl, key_of I2.hok eb, trivial⟩, dd, fun h' tk dd' hs => wpAny_pure ⟨.ref s.heap.objs.size, upd H2 s.heap.objs.size (.dT [(k, z)]), ?_, rfl, q2⟩⟩
    have e1 : storedAllH ([] : List (List Key × Addr × Value)) [(k, b, r2)] = [(k, b, r2)] := rfl
    rw [e1] at dd'
    obtain ⟨o, es, ep, g1, g2, g3, g4, g5, g6⟩ := dd'
    exact d_write (t' := tk) I2 (by rw [e]; exact True.intro) hs ⟨o, g1⟩ ⟨by show 1 ≤ sizeLine; decide, hd, [(k, b, r2)], .cons ⟨rfl, by rw [upd_ne ndb]; exact eb, h2⟩ .nil, o, es, ep, g1, g2, g3, g4, g6⟩
/-! ### for k, v in d.items(), the keys tuples -/
theorem frzV {pins : List (Addr × Obj)} {σ : L2.St} {H : Hp} {s : Shared} {d : Addr} {o : Obj} {kvs : List (List Key × V)} (I : Inv X pins σ H s) (h : H d = some (.frz o (.dT kvs))) : (d == sysModules) = false ∧ ∃ es ep, s.heap.DictRaw d es ep ∧ o.data = .dict es ep ∧ es.size = kvs.length ∧
    ∀ (i : Nat) (k : List Key) (v : V), kvs[i]? = some (k, v) → ∃ (en : DictEntry) (q : Addr), es[i]? = some en ∧ en.key = .ref q ∧ H q = some (.tup (k.map kV)) ∧ RelV v en.val := by
  obtain ⟨hd, z, hs, xs, pr, o', es, ep, ho, hx, hdt, he, _⟩ := I.hok d _ h
  rw [hd] at ho
  cases ho
  refine ⟨hs, es, ep, ⟨o, hd, hx, hdt⟩, hdt, ?_, fun i k v e => ?_⟩
  · have l1 : es.size = xs.length := size_of_entries he
    have l2 : kvs.length = xs.length := Paired.length pr
    omega
  · obtain ⟨b, hb, e1, e2, e3⟩ := paired_get pr e
    have q := entry_at he i
    rw [hb] at q
    exact ⟨_, b.2.1, q, rfl, e2, e3⟩
/-- the pairs of the locked dict at d, in their order: a new pair of the key's own tuple and the value -/
def ItiT (d : Addr) (o : Obj) (kvs : List (List Key × V)) : It :=
  ⟨fun i H => H d = some (.frz o (.dT kvs)) ∧ i < kvs.length, fun i H x H' => ∃ (t : Addr) (k : List Key) (v : V) (q : Addr), kvs[i]? = some (k, v) ∧ H q = some (.tup (k.map kV)) ∧ x = .ref t ∧ H t = none ∧ H' = upd H t (.tup [.ref q, v]), fun i H => H d = some (.frz o (.dT kvs)) ∧ kvs.length ≤ i⟩
theorem turn_itemsT {P : Program} {w : World} {d : Addr} {o : Obj} {es : Array DictEntry} {ep : Nat} {kvs : List (List Key × V)} {elts : List Expr} {kk : Nat} {tpos : Pos} {K : Frag} (it : Addr) (hod : o.data = .dict es ep) (hsz : es.size = kvs.length) :
    Turn P w K (.Tuple elts kk tpos) (ItiT d o kvs) [it] it (fun i h => ∃ ok ov, IsItemIter h it d i es.size ep ok ov) where
  mem := by simp
  obj := fun i h st b hb => by
    have e : b = it := by simpa using hb
    subst e
    obtain ⟨ok, ov, e⟩ := st
    exact ⟨_, e, fun v z => nomatch z⟩
  keep := fun i h h' st k => let ⟨ok, ov, e⟩ := st; ⟨ok, ov, k it (by simp) _ e⟩
  item := by
    intro X hP hw hK hc i pins s σ H E I hf st hg
    subst hP hw hK
    obtain ⟨hd, hi⟩ := hg
    obtain ⟨hs, es', ep', hm, hdt, hz, ent⟩ := frzV I hd
    obtain ⟨rfl, rfl⟩ := dict_ep hod hdt
    obtain ⟨⟨k, v⟩, hkv⟩ : ∃ p, kvs[i]? = some p := ⟨kvs[i], List.getElem?_eq_getElem hi⟩
    obtain ⟨en, q, hen, hkey, hq, rv⟩ := ent i k v hkv
    obtain ⟨ok, ov, he⟩ := st
    have hlt : it < s.heap.objs.size := Heap.lt_size he
    have hie : i < es'.size := by omega
    have een : es'[i] = en := by rw [Array.getElem?_eq_getElem hie] at hen; exact Option.some.inj hen
    refine wpAny_pyNext_items_item_raw he hm hie fun h' ho hT hz hk => ?_
    rw [een, hkey] at ho hT
    refine ⟨_, rfl, wpAny_letOwnedTupleGo_items (s := { s with heap := h' }) ho fun h'' he' sb => ?_⟩
    have hT2 : h''.get? s.heap.objs.size = some { cls := .type "tuple", data := .seq #[.ref q, en.val] } := (sb.2 _ (Nat.ne_of_gt hlt)).trans hT
    have new : ObjOk X.prog X.w (upd H s.heap.objs.size (.tup [.ref q, v])) h'' s.heap.objs.size (.tup [.ref q, v]) :=
      ⟨by show 2 ≤ sizeLine; decide, [.ref q, en.val], .cons rfl (.cons rv .nil), ⟨_, hT2, rfl, _, rfl⟩⟩
    have I1 : Inv X pins σ (upd H s.heap.objs.size (.tup [.ref q, v])) { s with heap := h'' } :=
      I.turnedNew (t' := s.toks) (ch := [it]) (fun b ob hb e => (sb.2 b (by simpa using hb)).trans (hk b ob (by simpa using hb) e)) hf (Nat.le_refl _) new
    refine ⟨.ref s.heap.objs.size, _, I1, rfl, ⟨_, k, v, q, hkv, hq, rfl, I.hok.fresh (Nat.le_refl _), rfl⟩, ⟨_, _, he'⟩, fun b hb => ?_⟩
    have e : b = it := by simpa using hb
    rw [e, upd_ne (Nat.ne_of_lt hlt)]
    exact (hf it (by simp)).1
  done := by
    intro X hP hw hK hc i pins s σ H E I hf st hg
    subst hP hw hK
    obtain ⟨hd, hi⟩ := hg
    obtain ⟨f0, f1, f2, f3, f4, f5⟩ := hf it (by simp)
    obtain ⟨hs, es', ep', hm, hdt, hz, ent⟩ := frzV I hd
    obtain ⟨rfl, rfl⟩ := dict_ep hod hdt
    obtain ⟨ok, ov, he⟩ := st
    exact wpAny_pyNext_items_end_raw (I.ok.hd hc) he hm (by omega) fun h' eb => ⟨rfl, I.turned (t' := s.toks) (fun b ob hb e => eb b ob hb e) f0 f1 f3 f4 f5⟩
  self := fun A i s Q E st h => let ⟨_, _, e⟩ := st; kcp_self e h
def iItemsT (td : TE) : L2.TI := fun σ H R => td σ H fun x H1 => ∃ d o kvs, x = .ref d ∧ H1 d = some (.frz o (.dT kvs)) ∧ R (ItiT d o kvs) H1
theorem pi_itemsT {e : Expr} {td : TE} {apos cpos : Pos} {elts : List Expr} {kk : Nat} {tpos : Pos} (he : PE X e td) (hbase : attributeBase e "items" X.env (eval e X.env) = eval e X.env := by rfl) (hline : (apos.endLine == cpos.line) = true := by rfl) :
    PI X (.Tuple elts kk tpos) (.Call (.Attribute e "items" apos) [] [] cpos) (iItemsT td) := by
  refine ⟨fun pins s σ H R I h => ?_⟩
  refine wpAny_Call_method (T := "dict") (id := "dict.items") hbase rfl hline F.plainAttrs_dict F.slot_dict_items F.type_dict_items (thn (he.run pins s σ H _ I h) fun u s1 ⟨x, H1, I1, rx, d, o, kvs, ex, hd, q⟩ => ?_)
  subst ex
  obtain rfl : u = Value.ref d := rx
  obtain ⟨hs, es, ep, hm, hdt, hz, ent⟩ := frzV I1 hd
  refine ⟨hm.typeIs, (isD_at I1 (.inr ⟨kvs, .inr ⟨o, hd⟩⟩)).2.1, ?_⟩
  have I2 : Inv X pins σ H1 { s1 with heap := s1.heap.push { cls := .type "dict_items", data := .fields #[.ref d] } } := I1.kept (t' := s1.toks) fun b ob q => Heap.get?_push_of_some _ q
  have hm2 : (s1.heap.push { cls := .type "dict_items", data := .fields #[.ref d] }).DictRaw d es ep := hm.at fun o q => Heap.get?_push_of_some _ q
  have fin : wpAny (model X.prog X.w) X.A (pyIter (.ref s1.heap.objs.size)) (PIE X pins σ (.Tuple elts kk tpos) R) X.xe { s1 with heap := s1.heap.push { cls := .type "dict_items", data := .fields #[.ref d] } } := by
    refine wpAny_pyIter_items_raw (d := d) ⟨_, Heap.get?_push_size _ rfl, rfl, rfl⟩ hm2 (pi_one (tk := s1.toks) I2 _ (turn_itemsT _ hdt hz) ⟨.none, .none, Heap.get?_push_size _ rfl⟩ q)
  show wpAny _ _ (callWith cpos (.builtin "dict.items") [.ref d] [] []) _ X.xe s1
  exact method_meetsIn F.slot_dict_items F.entry_dict_items rfl (PySem.evalArgs_none ⟨rfl, hm.typeIs, F.args_dict_items_1 _, _, meets_dict_items_raw d hs, ⟨es, ep, hm⟩, fin⟩)
/-! ### rules within a comprehension: the written part is named, not taken from the context -/
theorem lenK (K : Frag) (h : X.K = K) : CallR X (.builtin "len") (fun xs H Q => ∃ x n, xs = [x] ∧ LenV K x H n ∧ Q (.int n) H) := by rw [← h]; exact call_len
theorem ix_tupK (K : Frag) (h : X.K = K) : IxR X (rIxT K) := by rw [← h]; exact ix_tup
theorem ix_listK (K : Frag) (h : X.K = K) : IxR X (rIxL K) := by rw [← h]; exact ix_list
theorem op_catAK (K : Frag) (h : X.K = K) : OpR X (binaryOp .Add) (rCatA K) := by rw [← h]; exact op_catA
theorem mt_indexDK (K : Frag) (h : X.K = K) (hu : X.A.units + 65 < cLine) : MtR X "list.index" (rIndexD K) := by rw [← h]; exact mt_indexD hu
theorem pi_tupK (K : Frag) (h : X.K = K) {tg iter : Expr} {tl : TE} (ha : PE X iter tl) : PI X tg iter (iTup K tl) := by rw [← h]; exact pi_tup ha
theorem pi_listK (K : Frag) (h : X.K = K) {tg iter : Expr} {tl : TE} (ha : PE X iter tl) : PI X tg iter (iList K tl) := by rw [← h]; exact pi_list ha
theorem pe_fldK (K : Frag) (h : X.K = K) {e : Expr} {f : Str} {pos : Pos} {ta : TE} (he : PE X e ta) (hb : attributeBase e f X.env (eval e X.env) = eval e X.env) : PE X (.Attribute e f pos) (tFld K ta f) := by rw [← h]; exact pe_fld he hb
end
end Fd
set_option Elab.async false
set_option linter.all false
set_option maxRecDepth 100000
set_option maxHeartbeats 4000000
namespace Fd
open PySem PySem.Spec PyProof.Rows L2
def top (i : Nat) : Stmt := PySem.Challenge.pw_falsedays_k89_whole_shop_by_own_list.main.body.getD i (.Pass ⟨0, 0, 0, 0⟩)
abbrev s_is_integer : Stmt := top 11
abbrev N_is_integer : List Str := ["thing"]
abbrev P_is_integer : List Str := ["thing"]
theorem sc_is_integer : FnScope N_is_integer P_is_integer (defScope s_is_integer) := ⟨rfl, rfl, rfl, by decide +kernel, rfl, by decide +kernel, by decide +kernel⟩
abbrev s_is_within : Stmt := top 12
abbrev N_is_within : List Str := ["thing", "least", "most"]
abbrev P_is_within : List Str := ["thing", "least", "most"]
theorem sc_is_within : FnScope N_is_within P_is_within (defScope s_is_within) := ⟨rfl, rfl, rfl, by decide +kernel, rfl, by decide +kernel, by decide +kernel⟩
abbrev s_is_pair : Stmt := top 13
abbrev N_is_pair : List Str := ["thing"]
abbrev P_is_pair : List Str := ["thing"]
theorem sc_is_pair : FnScope N_is_pair P_is_pair (defScope s_is_pair) := ⟨rfl, rfl, rfl, by decide +kernel, rfl, by decide +kernel, by decide +kernel⟩
abbrev s_is_triple : Stmt := top 14
abbrev N_is_triple : List Str := ["thing"]
abbrev P_is_triple : List Str := ["thing"]
theorem sc_is_triple : FnScope N_is_triple P_is_triple (defScope s_is_triple) := ⟨rfl, rfl, rfl, by decide +kernel, rfl, by decide +kernel, by decide +kernel⟩
abbrev s_are_ascending : Stmt := top 15
abbrev N_are_ascending : List Str := ["things", "at"]
abbrev P_are_ascending : List Str := ["things"]
theorem sc_are_ascending : FnScope N_are_ascending P_are_ascending (defScope s_are_ascending) := ⟨rfl, rfl, rfl, by decide +kernel, rfl, by decide +kernel, by decide +kernel⟩
abbrev s_are_sizes : Stmt := top 19
abbrev N_are_sizes : List Str := ["thing", "size"]
abbrev P_are_sizes : List Str := ["thing"]
theorem sc_are_sizes : FnScope N_are_sizes P_are_sizes (defScope s_are_sizes) := ⟨rfl, rfl, rfl, by decide +kernel, rfl, by decide +kernel, by decide +kernel⟩
abbrev s_is_move : Stmt := top 20
abbrev N_is_move : List Str := ["sizes", "many", "thing", "slips", "answers", "marks"]
abbrev P_is_move : List Str := ["sizes", "many", "thing"]
theorem sc_is_move : FnScope N_is_move P_is_move (defScope s_is_move) := ⟨rfl, rfl, rfl, by decide +kernel, rfl, by decide +kernel, by decide +kernel⟩
abbrev s_are_moves : Stmt := top 21
abbrev N_are_moves : List Str := ["sizes", "thing", "row", "move"]
abbrev P_are_moves : List Str := ["sizes", "thing"]
theorem sc_are_moves : FnScope N_are_moves P_are_moves (defScope s_are_moves) := ⟨rfl, rfl, rfl, by decide +kernel, rfl, by decide +kernel, by decide +kernel⟩
abbrev s_are_closings : Stmt := top 22
abbrev N_are_closings : List Str := ["sizes", "many", "thing", "row", "mark"]
abbrev P_are_closings : List Str := ["sizes", "many", "thing"]
theorem sc_are_closings : FnScope N_are_closings P_are_closings (defScope s_are_closings) := ⟨rfl, rfl, rfl, by decide +kernel, rfl, by decide +kernel, by decide +kernel⟩
abbrev s_Office_init : Stmt := inClass (top 23) 0
abbrev N_Office_init : List Str := ["self", "sizes", "moves", "closings"]
abbrev P_Office_init : List Str := ["self", "sizes", "moves", "closings"]
theorem sc_Office_init : FnScope N_Office_init P_Office_init (defScope s_Office_init) := ⟨rfl, rfl, rfl, by decide +kernel, rfl, by decide +kernel, by decide +kernel⟩
abbrev s_Office_keep : Stmt := inClass (top 23) 1
abbrev N_Office_keep : List Str := ["self", "sizes", "moves", "closings", "row", "goals", "slip", "answer", "mark", "goal"]
abbrev P_Office_keep : List Str := ["self", "sizes", "moves", "closings"]
theorem sc_Office_keep : FnScope N_Office_keep P_Office_keep (defScope s_Office_keep) := ⟨rfl, rfl, rfl, by decide +kernel, rfl, by decide +kernel, by decide +kernel⟩
abbrev s_Office_eq : Stmt := inClass (top 23) 2
abbrev N_Office_eq : List Str := ["self", "other"]
abbrev P_Office_eq : List Str := ["self", "other"]
theorem sc_Office_eq : FnScope N_Office_eq P_Office_eq (defScope s_Office_eq) := ⟨rfl, rfl, rfl, by decide +kernel, rfl, by decide +kernel, by decide +kernel⟩
abbrev s_is_mark : Stmt := top 24
abbrev N_is_mark : List Str := ["office", "thing"]
abbrev P_is_mark : List Str := ["office", "thing"]
theorem sc_is_mark : FnScope N_is_mark P_is_mark (defScope s_is_mark) := ⟨rfl, rfl, rfl, by decide +kernel, rfl, by decide +kernel, by decide +kernel⟩
abbrev s_is_note : Stmt := top 25
abbrev N_is_note : List Str := ["office", "thing"]
abbrev P_is_note : List Str := ["office", "thing"]
theorem sc_is_note : FnScope N_is_note P_is_note (defScope s_is_note) := ⟨rfl, rfl, rfl, by decide +kernel, rfl, by decide +kernel, by decide +kernel⟩
abbrev s_is_step : Stmt := top 26
abbrev N_is_step : List Str := ["office", "thing"]
abbrev P_is_step : List Str := ["office", "thing"]
theorem sc_is_step : FnScope N_is_step P_is_step (defScope s_is_step) := ⟨rfl, rfl, rfl, by decide +kernel, rfl, by decide +kernel, by decide +kernel⟩
abbrev s_goals_of : Stmt := top 27
abbrev N_goals_of : List Str := ["office", "standings", "step", "found", "standing", "goal"]
abbrev P_goals_of : List Str := ["office", "standings", "step"]
theorem sc_goals_of : FnScope N_goals_of P_goals_of (defScope s_goals_of) := ⟨rfl, rfl, rfl, by decide +kernel, rfl, by decide +kernel, by decide +kernel⟩
abbrev s_all_steps : Stmt := top 28
abbrev N_all_steps : List Str := ["office", "slips", "answers", "marks", "notes_here", "slip", "answer", "note", "mark"]
abbrev P_all_steps : List Str := ["office"]
theorem sc_all_steps : FnScope N_all_steps P_all_steps (defScope s_all_steps) := ⟨rfl, rfl, rfl, by decide +kernel, rfl, by decide +kernel, by decide +kernel⟩
abbrev s_Reader_init : Stmt := inClass (top 32) 0
abbrev N_Reader_init : List Str := ["self", "office", "steps", "known", "standings", "row", "step", "goals"]
abbrev P_Reader_init : List Str := ["self", "office"]
theorem sc_Reader_init : FnScope N_Reader_init P_Reader_init (defScope s_Reader_init) := ⟨rfl, rfl, rfl, by decide +kernel, rfl, by decide +kernel, by decide +kernel⟩
abbrev s_Reader_behind : Stmt := inClass (top 32) 1
abbrev N_Reader_behind : List Str := ["self", "number", "step"]
abbrev P_Reader_behind : List Str := ["self", "number", "step"]
theorem sc_Reader_behind : FnScope N_Reader_behind P_Reader_behind (defScope s_Reader_behind) := ⟨rfl, rfl, rfl, by decide +kernel, rfl, by decide +kernel, by decide +kernel⟩
abbrev s_lasts_of : Stmt := top 33
abbrev N_lasts_of : List Str := ["office", "standings", "found", "standing", "mark"]
abbrev P_lasts_of : List Str := ["office", "standings"]
theorem sc_lasts_of : FnScope N_lasts_of P_lasts_of (defScope s_lasts_of) := ⟨rfl, rfl, rfl, by decide +kernel, rfl, by decide +kernel, by decide +kernel⟩
abbrev s_sorted_by_marks : Stmt := top 35
abbrev N_sorted_by_marks : List Str := ["row", "marks", "found", "step", "mark"]
abbrev P_sorted_by_marks : List Str := ["row", "marks"]
theorem sc_sorted_by_marks : FnScope N_sorted_by_marks P_sorted_by_marks (defScope s_sorted_by_marks) := ⟨rfl, rfl, rfl, by decide +kernel, rfl, by decide +kernel, by decide +kernel⟩
abbrev s_Twins_init : Stmt := inClass (top 36) 0
abbrev N_Twins_init : List Str := ["self", "office", "row"]
abbrev P_Twins_init : List Str := ["self", "office"]
theorem sc_Twins_init : FnScope N_Twins_init P_Twins_init (defScope s_Twins_init) := ⟨rfl, rfl, rfl, by decide +kernel, rfl, by decide +kernel, by decide +kernel⟩
abbrev s_Twins_goal : Stmt := inClass (top 36) 2
abbrev N_Twins_goal : List Str := ["self", "number", "step"]
abbrev P_Twins_goal : List Str := ["self", "number", "step"]
theorem sc_Twins_goal : FnScope N_Twins_goal P_Twins_goal (defScope s_Twins_goal) := ⟨rfl, rfl, rfl, by decide +kernel, rfl, by decide +kernel, by decide +kernel⟩
abbrev s_Twins_lasts : Stmt := inClass (top 36) 3
abbrev N_Twins_lasts : List Str := ["self", "number"]
abbrev P_Twins_lasts : List Str := ["self", "number"]
theorem sc_Twins_lasts : FnScope N_Twins_lasts P_Twins_lasts (defScope s_Twins_lasts) := ⟨rfl, rfl, rfl, by decide +kernel, rfl, by decide +kernel, by decide +kernel⟩
abbrev s_Twins_like_marks : Stmt := inClass (top 36) 4
abbrev N_Twins_like_marks : List Str := ["self", "pair", "one", "other", "found", "steps", "twins", "step", "goal", "twin", "end"]
abbrev P_Twins_like_marks : List Str := ["self", "pair"]
theorem sc_Twins_like_marks : FnScope N_Twins_like_marks P_Twins_like_marks (defScope s_Twins_like_marks) := ⟨rfl, rfl, rfl, by decide +kernel, rfl, by decide +kernel, by decide +kernel⟩
abbrev s_Twins_like_steps : Stmt := inClass (top 36) 5
abbrev N_Twins_like_steps : List Str := ["self", "pair", "one", "other", "found", "steps", "step", "goal", "end"]
abbrev P_Twins_like_steps : List Str := ["self", "pair"]
theorem sc_Twins_like_steps : FnScope N_Twins_like_steps P_Twins_like_steps (defScope s_Twins_like_steps) := ⟨rfl, rfl, rfl, by decide +kernel, rfl, by decide +kernel, by decide +kernel⟩
abbrev s_first_level : Stmt := top 37
abbrev N_first_level : List Str := ["twins", "found", "waiting", "at", "pair", "step", "twin"]
abbrev P_first_level : List Str := ["twins"]
theorem sc_first_level : FnScope N_first_level P_first_level (defScope s_first_level) := ⟨rfl, rfl, rfl, by decide +kernel, rfl, by decide +kernel, by decide +kernel⟩
abbrev s_next_level : Stmt := top 38
abbrev N_next_level : List Str := ["twins", "level", "found", "ahead", "pair", "step", "twin"]
abbrev P_next_level : List Str := ["twins", "level"]
theorem sc_next_level : FnScope N_next_level P_next_level (defScope s_next_level) := ⟨rfl, rfl, rfl, by decide +kernel, rfl, by decide +kernel, by decide +kernel⟩
abbrev s_are_alike : Stmt := top 39
abbrev N_are_alike : List Str := ["one", "other"]
abbrev P_are_alike : List Str := ["one", "other"]
theorem sc_are_alike : FnScope N_are_alike P_are_alike (defScope s_are_alike) := ⟨rfl, rfl, rfl, by decide +kernel, rfl, by decide +kernel, by decide +kernel⟩
abbrev s_begin_triple : Stmt := top 41
abbrev N_begin_triple : List Str := ["pair"]
abbrev P_begin_triple : List Str := ["pair"]
theorem sc_begin_triple : FnScope N_begin_triple P_begin_triple (defScope s_begin_triple) := ⟨rfl, rfl, rfl, by decide +kernel, rfl, by decide +kernel, by decide +kernel⟩
abbrev s_ways_on : Stmt := top 42
abbrev N_ways_on : List Str := ["twins", "triple", "first", "second", "third", "found", "steps", "others", "step", "goal", "twin", "end"]
abbrev P_ways_on : List Str := ["twins", "triple"]
theorem sc_ways_on : FnScope N_ways_on P_ways_on (defScope s_ways_on) := ⟨rfl, rfl, rfl, by decide +kernel, rfl, by decide +kernel, by decide +kernel⟩
abbrev s_goals_on : Stmt := top 43
abbrev N_goals_on : List Str := ["twins", "triple", "found", "later", "step", "twin"]
abbrev P_goals_on : List Str := ["twins", "triple"]
theorem sc_goals_on : FnScope N_goals_on P_goals_on (defScope s_goals_on) := ⟨rfl, rfl, rfl, by decide +kernel, rfl, by decide +kernel, by decide +kernel⟩
abbrev s_lasts_against : Stmt := top 44
abbrev N_lasts_against : List Str := ["twins", "triple", "first", "second", "third", "both", "last"]
abbrev P_lasts_against : List Str := ["twins", "triple"]
theorem sc_lasts_against : FnScope N_lasts_against P_lasts_against (defScope s_lasts_against) := ⟨rfl, rfl, rfl, by decide +kernel, rfl, by decide +kernel, by decide +kernel⟩
abbrev s_all_triples : Stmt := top 45
abbrev N_all_triples : List Str := ["twins", "pairs", "waiting", "found", "at", "later", "pair", "triple"]
abbrev P_all_triples : List Str := ["twins", "pairs"]
theorem sc_all_triples : FnScope N_all_triples P_all_triples (defScope s_all_triples) := ⟨rfl, rfl, rfl, by decide +kernel, rfl, by decide +kernel, by decide +kernel⟩
abbrev s_elders_of : Stmt := top 46
abbrev N_elders_of : List Str := ["table", "found", "triple", "laters", "later"]
abbrev P_elders_of : List Str := ["table"]
theorem sc_elders_of : FnScope N_elders_of P_elders_of (defScope s_elders_of) := ⟨rfl, rfl, rfl, by decide +kernel, rfl, by decide +kernel, by decide +kernel⟩
abbrev s_bad_pairs : Stmt := top 47
abbrev N_bad_pairs : List Str := ["twins", "pairs", "table", "elders", "waiting", "found", "at", "elder", "triple", "pair"]
abbrev P_bad_pairs : List Str := ["twins", "pairs"]
theorem sc_bad_pairs : FnScope N_bad_pairs P_bad_pairs (defScope s_bad_pairs) := ⟨rfl, rfl, rfl, by decide +kernel, rfl, by decide +kernel, by decide +kernel⟩
abbrev s_bad_of : Stmt := top 49
abbrev N_bad_of : List Str := ["level", "bad", "pair"]
abbrev P_bad_of : List Str := ["level", "bad"]
theorem sc_bad_of : FnScope N_bad_of P_bad_of (defScope s_bad_of) := ⟨rfl, rfl, rfl, by decide +kernel, rfl, by decide +kernel, by decide +kernel⟩
abbrev s_still_level : Stmt := top 50
abbrev N_still_level : List Str := ["twins", "level", "bad", "number", "later"]
abbrev P_still_level : List Str := ["twins"]
theorem sc_still_level : FnScope N_still_level P_still_level (defScope s_still_level) := ⟨rfl, rfl, rfl, by decide +kernel, rfl, by decide +kernel, by decide +kernel⟩
abbrev s_least_k : Stmt := top 51
abbrev N_least_k : List Str := ["office"]
abbrev P_least_k : List Str := ["office"]
theorem sc_least_k : FnScope N_least_k P_least_k (defScope s_least_k) := ⟨rfl, rfl, rfl, by decide +kernel, rfl, by decide +kernel, by decide +kernel⟩
abbrev s_with_item : Stmt := top 53
abbrev N_with_item : List Str := ["row", "item"]
abbrev P_with_item : List Str := ["row", "item"]
theorem sc_with_item : FnScope N_with_item P_with_item (defScope s_with_item) := ⟨rfl, rfl, rfl, by decide +kernel, rfl, by decide +kernel, by decide +kernel⟩
abbrev s_exchanged : Stmt := top 54
abbrev N_exchanged : List Str := ["rows", "at", "row"]
abbrev P_exchanged : List Str := ["rows", "at", "row"]
theorem sc_exchanged : FnScope N_exchanged P_exchanged (defScope s_exchanged) := ⟨rfl, rfl, rfl, by decide +kernel, rfl, by decide +kernel, by decide +kernel⟩
abbrev s_Shop_init : Stmt := inClass (top 55) 0
abbrev N_Shop_init : List Str := ["self", "office"]
abbrev P_Shop_init : List Str := ["self", "office"]
theorem sc_Shop_init : FnScope N_Shop_init P_Shop_init (defScope s_Shop_init) := ⟨rfl, rfl, rfl, by decide +kernel, rfl, by decide +kernel, by decide +kernel⟩
abbrev s_Shop_check_standing : Stmt := inClass (top 55) 1
abbrev N_Shop_check_standing : List Str := ["self", "thing"]
abbrev P_Shop_check_standing : List Str := ["self", "thing"]
theorem sc_Shop_check_standing : FnScope N_Shop_check_standing P_Shop_check_standing (defScope s_Shop_check_standing) := ⟨rfl, rfl, rfl, by decide +kernel, rfl, by decide +kernel, by decide +kernel⟩
abbrev s_Shop_check_mark : Stmt := inClass (top 55) 2
abbrev N_Shop_check_mark : List Str := ["self", "thing"]
abbrev P_Shop_check_mark : List Str := ["self", "thing"]
theorem sc_Shop_check_mark : FnScope N_Shop_check_mark P_Shop_check_mark (defScope s_Shop_check_mark) := ⟨rfl, rfl, rfl, by decide +kernel, rfl, by decide +kernel, by decide +kernel⟩
abbrev s_Shop_change : Stmt := inClass (top 55) 3
abbrev N_Shop_change : List Str := ["self", "moves", "closings", "made"]
abbrev P_Shop_change : List Str := ["self", "moves", "closings"]
theorem sc_Shop_change : FnScope N_Shop_change P_Shop_change (defScope s_Shop_change) := ⟨rfl, rfl, rfl, by decide +kernel, rfl, by decide +kernel, by decide +kernel⟩
abbrev s_Shop_put : Stmt := inClass (top 55) 4
abbrev N_Shop_put : List Str := ["self", "standing", "slip", "answer", "mark", "goal", "moves", "row"]
abbrev P_Shop_put : List Str := ["self", "standing", "slip", "answer", "mark", "goal"]
theorem sc_Shop_put : FnScope N_Shop_put P_Shop_put (defScope s_Shop_put) := ⟨rfl, rfl, rfl, by decide +kernel, rfl, by decide +kernel, by decide +kernel⟩
abbrev s_Shop_strike : Stmt := inClass (top 55) 5
abbrev N_Shop_strike : List Str := ["self", "standing", "index", "moves", "row"]
abbrev P_Shop_strike : List Str := ["self", "standing", "index"]
theorem sc_Shop_strike : FnScope N_Shop_strike P_Shop_strike (defScope s_Shop_strike) := ⟨rfl, rfl, rfl, by decide +kernel, rfl, by decide +kernel, by decide +kernel⟩
abbrev s_Shop_add : Stmt := inClass (top 55) 6
abbrev N_Shop_add : List Str := ["self"]
abbrev P_Shop_add : List Str := ["self"]
theorem sc_Shop_add : FnScope N_Shop_add P_Shop_add (defScope s_Shop_add) := ⟨rfl, rfl, rfl, by decide +kernel, rfl, by decide +kernel, by decide +kernel⟩
abbrev s_Shop_shuts : Stmt := inClass (top 55) 7
abbrev N_Shop_shuts : List Str := ["self", "standing", "mark", "closings"]
abbrev P_Shop_shuts : List Str := ["self", "standing", "mark"]
theorem sc_Shop_shuts : FnScope N_Shop_shuts P_Shop_shuts (defScope s_Shop_shuts) := ⟨rfl, rfl, rfl, by decide +kernel, rfl, by decide +kernel, by decide +kernel⟩
abbrev s_Shop_shuts_not : Stmt := inClass (top 55) 8
abbrev N_Shop_shuts_not : List Str := ["self", "standing", "mark", "closings", "row", "left", "other"]
abbrev P_Shop_shuts_not : List Str := ["self", "standing", "mark"]
theorem sc_Shop_shuts_not : FnScope N_Shop_shuts_not P_Shop_shuts_not (defScope s_Shop_shuts_not) := ⟨rfl, rfl, rfl, by decide +kernel, rfl, by decide +kernel, by decide +kernel⟩
abbrev s_Shop_office : Stmt := inClass (top 55) 9
abbrev N_Shop_office : List Str := ["self"]
abbrev P_Shop_office : List Str := ["self"]
theorem sc_Shop_office : FnScope N_Shop_office P_Shop_office (defScope s_Shop_office) := ⟨rfl, rfl, rfl, by decide +kernel, rfl, by decide +kernel, by decide +kernel⟩
abbrev s_Shop_least : Stmt := inClass (top 55) 10
abbrev N_Shop_least : List Str := ["self"]
abbrev P_Shop_least : List Str := ["self"]
theorem sc_Shop_least : FnScope N_Shop_least P_Shop_least (defScope s_Shop_least) := ⟨rfl, rfl, rfl, by decide +kernel, rfl, by decide +kernel, by decide +kernel⟩
abbrev s_Shop_depth : Stmt := inClass (top 55) 12
abbrev N_Shop_depth : List Str := ["self"]
abbrev P_Shop_depth : List Str := ["self"]
theorem sc_Shop_depth : FnScope N_Shop_depth P_Shop_depth (defScope s_Shop_depth) := ⟨rfl, rfl, rfl, by decide +kernel, rfl, by decide +kernel, by decide +kernel⟩
abbrev s_l_hand : Stmt := top 57
abbrev N_l_hand : List Str := ["_law_script", "_law_cells", "_law_cell"]
abbrev P_l_hand : List Str := ["_law_script"]
theorem sc_l_hand : FnScope N_l_hand P_l_hand (defScope s_l_hand) := ⟨rfl, rfl, rfl, by decide +kernel, rfl, by decide +kernel, by decide +kernel⟩
abbrev s_l_draw : Stmt := top 58
abbrev N_l_draw : List Str := ["_law_hand_here", "_law_many", "_law_cell", "_law_digit", "_law_number"]
abbrev P_l_draw : List Str := ["_law_hand_here", "_law_many"]
theorem sc_l_draw : FnScope N_l_draw P_l_draw (defScope s_l_draw) := ⟨rfl, rfl, rfl, by decide +kernel, rfl, by decide +kernel, by decide +kernel⟩
abbrev s_l_sizes : Stmt := top 59
abbrev N_l_sizes : List Str := ["_law_hand_here", "_law_most"]
abbrev P_l_sizes : List Str := ["_law_hand_here", "_law_most"]
theorem sc_l_sizes : FnScope N_l_sizes P_l_sizes (defScope s_l_sizes) := ⟨rfl, rfl, rfl, by decide +kernel, rfl, by decide +kernel, by decide +kernel⟩
abbrev s_l_moves : Stmt := top 60
abbrev N_l_moves : List Str := ["_law_hand_here", "_law_sizes_here", "_law_many", "_law_found", "_law_standing", "_law_row", "_law_slip", "_law_turn"]
abbrev P_l_moves : List Str := ["_law_hand_here", "_law_sizes_here", "_law_many"]
theorem sc_l_moves : FnScope N_l_moves P_l_moves (defScope s_l_moves) := ⟨rfl, rfl, rfl, by decide +kernel, rfl, by decide +kernel, by decide +kernel⟩
abbrev s_l_closings : Stmt := top 61
abbrev N_l_closings : List Str := ["_law_hand_here", "_law_sizes_here", "_law_many", "_law_found", "_law_standing", "_law_mark"]
abbrev P_l_closings : List Str := ["_law_hand_here", "_law_sizes_here", "_law_many"]
theorem sc_l_closings : FnScope N_l_closings P_l_closings (defScope s_l_closings) := ⟨rfl, rfl, rfl, by decide +kernel, rfl, by decide +kernel, by decide +kernel⟩
abbrev s_l_office : Stmt := top 62
abbrev N_l_office : List Str := ["_law_hand_here", "_law_sizes_here", "_law_most", "_law_many"]
abbrev P_l_office : List Str := ["_law_hand_here", "_law_sizes_here", "_law_most"]
theorem sc_l_office : FnScope N_l_office P_l_office (defScope s_l_office) := ⟨rfl, rfl, rfl, by decide +kernel, rfl, by decide +kernel, by decide +kernel⟩
abbrev s_l_move : Stmt := top 63
abbrev N_l_move : List Str := ["_law_hand_here", "_law_sizes_here", "_law_many", "_law_slip"]
abbrev P_l_move : List Str := ["_law_hand_here", "_law_sizes_here", "_law_many"]
theorem sc_l_move : FnScope N_l_move P_l_move (defScope s_l_move) := ⟨rfl, rfl, rfl, by decide +kernel, rfl, by decide +kernel, by decide +kernel⟩
abbrev s_l_changed : Stmt := top 64
abbrev N_l_changed : List Str := ["_law_hand_here", "_law_shop", "_law_sizes_here", "_law_moves_here", "_law_closings_here", "_law_at", "_law_kind", "_law_mark", "_law_index", "_law_move_here", "_law_other"]
abbrev P_l_changed : List Str := ["_law_hand_here", "_law_shop", "_law_sizes_here", "_law_moves_here", "_law_closings_here"]
theorem sc_l_changed : FnScope N_l_changed P_l_changed (defScope s_l_changed) := ⟨rfl, rfl, rfl, by decide +kernel, rfl, by decide +kernel, by decide +kernel⟩
abbrev s_l_same : Stmt := top 65
abbrev N_l_same : List Str := ["_law_shop", "_law_sizes_here", "_law_moves_here", "_law_closings_here", "_law_office_here", "_law_due", "_law_row"]
abbrev P_l_same : List Str := ["_law_shop", "_law_sizes_here", "_law_moves_here", "_law_closings_here"]
theorem sc_l_same : FnScope N_l_same P_l_same (defScope s_l_same) := ⟨rfl, rfl, rfl, by decide +kernel, rfl, by decide +kernel, by decide +kernel⟩
abbrev s_law : Stmt := top 66
abbrev N_law : List Str := ["_law_script", "_law_hand_here", "_law_sizes_here", "_law_first", "_law_shop", "_law_moves_here", "_law_closings_here", "_law_told", "_law_deeds", "_law_turn", "_law_fine", "_law_done", "_law_office_here", "_law_due", "_law_least", "_law_row", "_law_kept"]
abbrev P_law : List Str := ["_law_script"]
theorem sc_law : FnScope N_law P_law (defScope s_law) := ⟨rfl, rfl, rfl, by decide +kernel, rfl, by decide +kernel, by decide +kernel⟩
structure Txt (K : PySem.W.Frag) (mg : Str → Option Value) where
  (a_is_integer : Addr) (d_is_integer : FuncData)
  F_is_integer : Fun K "is_integer" "is_integer" s_is_integer a_is_integer d_is_integer
  b_is_integer : Binds K d_is_integer P_is_integer []
  g_is_integer : mg "is_integer" = some (.ref a_is_integer)
  k_is_integer : PySem.W.keepIn K (.ref a_is_integer) = true
  (a_is_within : Addr) (d_is_within : FuncData)
  F_is_within : Fun K "is_within" "is_within" s_is_within a_is_within d_is_within
  b_is_within : Binds K d_is_within P_is_within []
  g_is_within : mg "is_within" = some (.ref a_is_within)
  k_is_within : PySem.W.keepIn K (.ref a_is_within) = true
  (a_is_pair : Addr) (d_is_pair : FuncData)
  F_is_pair : Fun K "is_pair" "is_pair" s_is_pair a_is_pair d_is_pair
  b_is_pair : Binds K d_is_pair P_is_pair []
  g_is_pair : mg "is_pair" = some (.ref a_is_pair)
  k_is_pair : PySem.W.keepIn K (.ref a_is_pair) = true
  (a_is_triple : Addr) (d_is_triple : FuncData)
  F_is_triple : Fun K "is_triple" "is_triple" s_is_triple a_is_triple d_is_triple
  b_is_triple : Binds K d_is_triple P_is_triple []
  g_is_triple : mg "is_triple" = some (.ref a_is_triple)
  k_is_triple : PySem.W.keepIn K (.ref a_is_triple) = true
  (a_are_ascending : Addr) (d_are_ascending : FuncData)
  F_are_ascending : Fun K "are_ascending" "are_ascending" s_are_ascending a_are_ascending d_are_ascending
  b_are_ascending : Binds K d_are_ascending P_are_ascending []
  g_are_ascending : mg "are_ascending" = some (.ref a_are_ascending)
  k_are_ascending : PySem.W.keepIn K (.ref a_are_ascending) = true
  (a_are_sizes : Addr) (d_are_sizes : FuncData)
  F_are_sizes : Fun K "are_sizes" "are_sizes" s_are_sizes a_are_sizes d_are_sizes
  b_are_sizes : Binds K d_are_sizes P_are_sizes []
  g_are_sizes : mg "are_sizes" = some (.ref a_are_sizes)
  k_are_sizes : PySem.W.keepIn K (.ref a_are_sizes) = true
  (a_is_move : Addr) (d_is_move : FuncData)
  F_is_move : Fun K "is_move" "is_move" s_is_move a_is_move d_is_move
  b_is_move : Binds K d_is_move P_is_move []
  g_is_move : mg "is_move" = some (.ref a_is_move)
  k_is_move : PySem.W.keepIn K (.ref a_is_move) = true
  (a_are_moves : Addr) (d_are_moves : FuncData)
  F_are_moves : Fun K "are_moves" "are_moves" s_are_moves a_are_moves d_are_moves
  b_are_moves : Binds K d_are_moves P_are_moves []
  g_are_moves : mg "are_moves" = some (.ref a_are_moves)
  k_are_moves : PySem.W.keepIn K (.ref a_are_moves) = true
  (a_are_closings : Addr) (d_are_closings : FuncData)
  F_are_closings : Fun K "are_closings" "are_closings" s_are_closings a_are_closings d_are_closings
  b_are_closings : Binds K d_are_closings P_are_closings []
  g_are_closings : mg "are_closings" = some (.ref a_are_closings)
  k_are_closings : PySem.W.keepIn K (.ref a_are_closings) = true
  (a_Office_init : Addr) (d_Office_init : FuncData)
  F_Office_init : Fun K "__init__" "Office.__init__" s_Office_init a_Office_init d_Office_init
  b_Office_init : Binds K d_Office_init P_Office_init []
  (a_Office_keep : Addr) (d_Office_keep : FuncData)
  F_Office_keep : Fun K "keep" "Office.keep" s_Office_keep a_Office_keep d_Office_keep
  b_Office_keep : Binds K d_Office_keep P_Office_keep []
  (a_Office_eq : Addr) (d_Office_eq : FuncData)
  F_Office_eq : Fun K "__eq__" "Office.__eq__" s_Office_eq a_Office_eq d_Office_eq
  b_Office_eq : Binds K d_Office_eq P_Office_eq []
  (a_is_mark : Addr) (d_is_mark : FuncData)
  F_is_mark : Fun K "is_mark" "is_mark" s_is_mark a_is_mark d_is_mark
  b_is_mark : Binds K d_is_mark P_is_mark []
  g_is_mark : mg "is_mark" = some (.ref a_is_mark)
  k_is_mark : PySem.W.keepIn K (.ref a_is_mark) = true
  (a_is_note : Addr) (d_is_note : FuncData)
  F_is_note : Fun K "is_note" "is_note" s_is_note a_is_note d_is_note
  b_is_note : Binds K d_is_note P_is_note []
  g_is_note : mg "is_note" = some (.ref a_is_note)
  k_is_note : PySem.W.keepIn K (.ref a_is_note) = true
  (a_is_step : Addr) (d_is_step : FuncData)
  F_is_step : Fun K "is_step" "is_step" s_is_step a_is_step d_is_step
  b_is_step : Binds K d_is_step P_is_step []
  g_is_step : mg "is_step" = some (.ref a_is_step)
  k_is_step : PySem.W.keepIn K (.ref a_is_step) = true
  (a_goals_of : Addr) (d_goals_of : FuncData)
  F_goals_of : Fun K "goals_of" "goals_of" s_goals_of a_goals_of d_goals_of
  b_goals_of : Binds K d_goals_of P_goals_of []
  g_goals_of : mg "goals_of" = some (.ref a_goals_of)
  k_goals_of : PySem.W.keepIn K (.ref a_goals_of) = true
  (a_all_steps : Addr) (d_all_steps : FuncData)
  F_all_steps : Fun K "all_steps" "all_steps" s_all_steps a_all_steps d_all_steps
  b_all_steps : Binds K d_all_steps P_all_steps []
  g_all_steps : mg "all_steps" = some (.ref a_all_steps)
  k_all_steps : PySem.W.keepIn K (.ref a_all_steps) = true
  (a_Reader_init : Addr) (d_Reader_init : FuncData)
  F_Reader_init : Fun K "__init__" "Reader.__init__" s_Reader_init a_Reader_init d_Reader_init
  b_Reader_init : Binds K d_Reader_init P_Reader_init []
  (a_Reader_behind : Addr) (d_Reader_behind : FuncData)
  F_Reader_behind : Fun K "behind" "Reader.behind" s_Reader_behind a_Reader_behind d_Reader_behind
  b_Reader_behind : Binds K d_Reader_behind P_Reader_behind []
  (a_lasts_of : Addr) (d_lasts_of : FuncData)
  F_lasts_of : Fun K "lasts_of" "lasts_of" s_lasts_of a_lasts_of d_lasts_of
  b_lasts_of : Binds K d_lasts_of P_lasts_of []
  g_lasts_of : mg "lasts_of" = some (.ref a_lasts_of)
  k_lasts_of : PySem.W.keepIn K (.ref a_lasts_of) = true
  (a_sorted_by_marks : Addr) (d_sorted_by_marks : FuncData)
  F_sorted_by_marks : Fun K "sorted_by_marks" "sorted_by_marks" s_sorted_by_marks a_sorted_by_marks d_sorted_by_marks
  b_sorted_by_marks : Binds K d_sorted_by_marks P_sorted_by_marks []
  g_sorted_by_marks : mg "sorted_by_marks" = some (.ref a_sorted_by_marks)
  k_sorted_by_marks : PySem.W.keepIn K (.ref a_sorted_by_marks) = true
  (a_Twins_init : Addr) (d_Twins_init : FuncData)
  F_Twins_init : Fun K "__init__" "Twins.__init__" s_Twins_init a_Twins_init d_Twins_init
  b_Twins_init : Binds K d_Twins_init P_Twins_init []
  (a_Twins_goal : Addr) (d_Twins_goal : FuncData)
  F_Twins_goal : Fun K "goal" "Twins.goal" s_Twins_goal a_Twins_goal d_Twins_goal
  b_Twins_goal : Binds K d_Twins_goal P_Twins_goal []
  (a_Twins_lasts : Addr) (d_Twins_lasts : FuncData)
  F_Twins_lasts : Fun K "lasts" "Twins.lasts" s_Twins_lasts a_Twins_lasts d_Twins_lasts
  b_Twins_lasts : Binds K d_Twins_lasts P_Twins_lasts []
  (a_Twins_like_marks : Addr) (d_Twins_like_marks : FuncData)
  F_Twins_like_marks : Fun K "like_marks" "Twins.like_marks" s_Twins_like_marks a_Twins_like_marks d_Twins_like_marks
  b_Twins_like_marks : Binds K d_Twins_like_marks P_Twins_like_marks []
  (a_Twins_like_steps : Addr) (d_Twins_like_steps : FuncData)
  F_Twins_like_steps : Fun K "like_steps" "Twins.like_steps" s_Twins_like_steps a_Twins_like_steps d_Twins_like_steps
  b_Twins_like_steps : Binds K d_Twins_like_steps P_Twins_like_steps []
  (a_first_level : Addr) (d_first_level : FuncData)
  F_first_level : Fun K "first_level" "first_level" s_first_level a_first_level d_first_level
  b_first_level : Binds K d_first_level P_first_level []
  g_first_level : mg "first_level" = some (.ref a_first_level)
  k_first_level : PySem.W.keepIn K (.ref a_first_level) = true
  (a_next_level : Addr) (d_next_level : FuncData)
  F_next_level : Fun K "next_level" "next_level" s_next_level a_next_level d_next_level
  b_next_level : Binds K d_next_level P_next_level []
  g_next_level : mg "next_level" = some (.ref a_next_level)
  k_next_level : PySem.W.keepIn K (.ref a_next_level) = true
  (a_are_alike : Addr) (d_are_alike : FuncData)
  F_are_alike : Fun K "are_alike" "are_alike" s_are_alike a_are_alike d_are_alike
  b_are_alike : Binds K d_are_alike P_are_alike []
  g_are_alike : mg "are_alike" = some (.ref a_are_alike)
  k_are_alike : PySem.W.keepIn K (.ref a_are_alike) = true
  (a_begin_triple : Addr) (d_begin_triple : FuncData)
  F_begin_triple : Fun K "begin_triple" "begin_triple" s_begin_triple a_begin_triple d_begin_triple
  b_begin_triple : Binds K d_begin_triple P_begin_triple []
  g_begin_triple : mg "begin_triple" = some (.ref a_begin_triple)
  k_begin_triple : PySem.W.keepIn K (.ref a_begin_triple) = true
  (a_ways_on : Addr) (d_ways_on : FuncData)
  F_ways_on : Fun K "ways_on" "ways_on" s_ways_on a_ways_on d_ways_on
  b_ways_on : Binds K d_ways_on P_ways_on []
  g_ways_on : mg "ways_on" = some (.ref a_ways_on)
  k_ways_on : PySem.W.keepIn K (.ref a_ways_on) = true
  (a_goals_on : Addr) (d_goals_on : FuncData)
  F_goals_on : Fun K "goals_on" "goals_on" s_goals_on a_goals_on d_goals_on
  b_goals_on : Binds K d_goals_on P_goals_on []
  g_goals_on : mg "goals_on" = some (.ref a_goals_on)
  k_goals_on : PySem.W.keepIn K (.ref a_goals_on) = true
  (a_lasts_against : Addr) (d_lasts_against : FuncData)
  F_lasts_against : Fun K "lasts_against" "lasts_against" s_lasts_against a_lasts_against d_lasts_against
  b_lasts_against : Binds K d_lasts_against P_lasts_against []
  g_lasts_against : mg "lasts_against" = some (.ref a_lasts_against)
  k_lasts_against : PySem.W.keepIn K (.ref a_lasts_against) = true
  (a_all_triples : Addr) (d_all_triples : FuncData)
  F_all_triples : Fun K "all_triples" "all_triples" s_all_triples a_all_triples d_all_triples
  b_all_triples : Binds K d_all_triples P_all_triples []
  g_all_triples : mg "all_triples" = some (.ref a_all_triples)
  k_all_triples : PySem.W.keepIn K (.ref a_all_triples) = true
  (a_elders_of : Addr) (d_elders_of : FuncData)
  F_elders_of : Fun K "elders_of" "elders_of" s_elders_of a_elders_of d_elders_of
  b_elders_of : Binds K d_elders_of P_elders_of []
  g_elders_of : mg "elders_of" = some (.ref a_elders_of)
  k_elders_of : PySem.W.keepIn K (.ref a_elders_of) = true
  (a_bad_pairs : Addr) (d_bad_pairs : FuncData)
  F_bad_pairs : Fun K "bad_pairs" "bad_pairs" s_bad_pairs a_bad_pairs d_bad_pairs
  b_bad_pairs : Binds K d_bad_pairs P_bad_pairs []
  g_bad_pairs : mg "bad_pairs" = some (.ref a_bad_pairs)
  k_bad_pairs : PySem.W.keepIn K (.ref a_bad_pairs) = true
  (a_bad_of : Addr) (d_bad_of : FuncData)
  F_bad_of : Fun K "bad_of" "bad_of" s_bad_of a_bad_of d_bad_of
  b_bad_of : Binds K d_bad_of P_bad_of []
  g_bad_of : mg "bad_of" = some (.ref a_bad_of)
  k_bad_of : PySem.W.keepIn K (.ref a_bad_of) = true
  (a_still_level : Addr) (d_still_level : FuncData)
  F_still_level : Fun K "still_level" "still_level" s_still_level a_still_level d_still_level
  b_still_level : Binds K d_still_level P_still_level []
  g_still_level : mg "still_level" = some (.ref a_still_level)
  k_still_level : PySem.W.keepIn K (.ref a_still_level) = true
  (a_least_k : Addr) (d_least_k : FuncData)
  F_least_k : Fun K "least_k" "least_k" s_least_k a_least_k d_least_k
  b_least_k : Binds K d_least_k P_least_k []
  g_least_k : mg "least_k" = some (.ref a_least_k)
  k_least_k : PySem.W.keepIn K (.ref a_least_k) = true
  (a_with_item : Addr) (d_with_item : FuncData)
  F_with_item : Fun K "with_item" "with_item" s_with_item a_with_item d_with_item
  b_with_item : Binds K d_with_item P_with_item []
  g_with_item : mg "with_item" = some (.ref a_with_item)
  k_with_item : PySem.W.keepIn K (.ref a_with_item) = true
  (a_exchanged : Addr) (d_exchanged : FuncData)
  F_exchanged : Fun K "exchanged" "exchanged" s_exchanged a_exchanged d_exchanged
  b_exchanged : Binds K d_exchanged P_exchanged []
  g_exchanged : mg "exchanged" = some (.ref a_exchanged)
  k_exchanged : PySem.W.keepIn K (.ref a_exchanged) = true
  (a_Shop_init : Addr) (d_Shop_init : FuncData)
  F_Shop_init : Fun K "__init__" "Shop.__init__" s_Shop_init a_Shop_init d_Shop_init
  b_Shop_init : Binds K d_Shop_init P_Shop_init []
  (a_Shop_check_standing : Addr) (d_Shop_check_standing : FuncData)
  F_Shop_check_standing : Fun K "check_standing" "Shop.check_standing" s_Shop_check_standing a_Shop_check_standing d_Shop_check_standing
  b_Shop_check_standing : Binds K d_Shop_check_standing P_Shop_check_standing []
  (a_Shop_check_mark : Addr) (d_Shop_check_mark : FuncData)
  F_Shop_check_mark : Fun K "check_mark" "Shop.check_mark" s_Shop_check_mark a_Shop_check_mark d_Shop_check_mark
  b_Shop_check_mark : Binds K d_Shop_check_mark P_Shop_check_mark []
  (a_Shop_change : Addr) (d_Shop_change : FuncData)
  F_Shop_change : Fun K "change" "Shop.change" s_Shop_change a_Shop_change d_Shop_change
  b_Shop_change : Binds K d_Shop_change P_Shop_change []
  (a_Shop_put : Addr) (d_Shop_put : FuncData)
  F_Shop_put : Fun K "put" "Shop.put" s_Shop_put a_Shop_put d_Shop_put
  b_Shop_put : Binds K d_Shop_put P_Shop_put []
  (a_Shop_strike : Addr) (d_Shop_strike : FuncData)
  F_Shop_strike : Fun K "strike" "Shop.strike" s_Shop_strike a_Shop_strike d_Shop_strike
  b_Shop_strike : Binds K d_Shop_strike P_Shop_strike []
  (a_Shop_add : Addr) (d_Shop_add : FuncData)
  F_Shop_add : Fun K "add" "Shop.add" s_Shop_add a_Shop_add d_Shop_add
  b_Shop_add : Binds K d_Shop_add P_Shop_add []
  (a_Shop_shuts : Addr) (d_Shop_shuts : FuncData)
  F_Shop_shuts : Fun K "shuts" "Shop.shuts" s_Shop_shuts a_Shop_shuts d_Shop_shuts
  b_Shop_shuts : Binds K d_Shop_shuts P_Shop_shuts []
  (a_Shop_shuts_not : Addr) (d_Shop_shuts_not : FuncData)
  F_Shop_shuts_not : Fun K "shuts_not" "Shop.shuts_not" s_Shop_shuts_not a_Shop_shuts_not d_Shop_shuts_not
  b_Shop_shuts_not : Binds K d_Shop_shuts_not P_Shop_shuts_not []
  (a_Shop_office : Addr) (d_Shop_office : FuncData)
  F_Shop_office : Fun K "office" "Shop.office" s_Shop_office a_Shop_office d_Shop_office
  b_Shop_office : Binds K d_Shop_office P_Shop_office []
  (a_Shop_least : Addr) (d_Shop_least : FuncData)
  F_Shop_least : Fun K "least" "Shop.least" s_Shop_least a_Shop_least d_Shop_least
  b_Shop_least : Binds K d_Shop_least P_Shop_least []
  (a_Shop_depth : Addr) (d_Shop_depth : FuncData)
  F_Shop_depth : Fun K "depth" "Shop.depth" s_Shop_depth a_Shop_depth d_Shop_depth
  b_Shop_depth : Binds K d_Shop_depth P_Shop_depth []
  (a_l_hand : Addr) (d_l_hand : FuncData)
  F_l_hand : Fun K "_law_hand" "_law_hand" s_l_hand a_l_hand d_l_hand
  b_l_hand : Binds K d_l_hand P_l_hand []
  g_l_hand : mg "_law_hand" = some (.ref a_l_hand)
  k_l_hand : PySem.W.keepIn K (.ref a_l_hand) = true
  (a_l_draw : Addr) (d_l_draw : FuncData)
  F_l_draw : Fun K "_law_draw" "_law_draw" s_l_draw a_l_draw d_l_draw
  b_l_draw : Binds K d_l_draw P_l_draw []
  g_l_draw : mg "_law_draw" = some (.ref a_l_draw)
  k_l_draw : PySem.W.keepIn K (.ref a_l_draw) = true
  (a_l_sizes : Addr) (d_l_sizes : FuncData)
  F_l_sizes : Fun K "_law_sizes" "_law_sizes" s_l_sizes a_l_sizes d_l_sizes
  b_l_sizes : Binds K d_l_sizes P_l_sizes []
  g_l_sizes : mg "_law_sizes" = some (.ref a_l_sizes)
  k_l_sizes : PySem.W.keepIn K (.ref a_l_sizes) = true
  (a_l_moves : Addr) (d_l_moves : FuncData)
  F_l_moves : Fun K "_law_moves" "_law_moves" s_l_moves a_l_moves d_l_moves
  b_l_moves : Binds K d_l_moves P_l_moves []
  g_l_moves : mg "_law_moves" = some (.ref a_l_moves)
  k_l_moves : PySem.W.keepIn K (.ref a_l_moves) = true
  (a_l_closings : Addr) (d_l_closings : FuncData)
  F_l_closings : Fun K "_law_closings" "_law_closings" s_l_closings a_l_closings d_l_closings
  b_l_closings : Binds K d_l_closings P_l_closings []
  g_l_closings : mg "_law_closings" = some (.ref a_l_closings)
  k_l_closings : PySem.W.keepIn K (.ref a_l_closings) = true
  (a_l_office : Addr) (d_l_office : FuncData)
  F_l_office : Fun K "_law_office" "_law_office" s_l_office a_l_office d_l_office
  b_l_office : Binds K d_l_office P_l_office []
  g_l_office : mg "_law_office" = some (.ref a_l_office)
  k_l_office : PySem.W.keepIn K (.ref a_l_office) = true
  (a_l_move : Addr) (d_l_move : FuncData)
  F_l_move : Fun K "_law_move" "_law_move" s_l_move a_l_move d_l_move
  b_l_move : Binds K d_l_move P_l_move []
  g_l_move : mg "_law_move" = some (.ref a_l_move)
  k_l_move : PySem.W.keepIn K (.ref a_l_move) = true
  (a_l_changed : Addr) (d_l_changed : FuncData)
  F_l_changed : Fun K "_law_changed" "_law_changed" s_l_changed a_l_changed d_l_changed
  b_l_changed : Binds K d_l_changed P_l_changed []
  g_l_changed : mg "_law_changed" = some (.ref a_l_changed)
  k_l_changed : PySem.W.keepIn K (.ref a_l_changed) = true
  (a_l_same : Addr) (d_l_same : FuncData)
  F_l_same : Fun K "_law_same" "_law_same" s_l_same a_l_same d_l_same
  b_l_same : Binds K d_l_same P_l_same []
  g_l_same : mg "_law_same" = some (.ref a_l_same)
  k_l_same : PySem.W.keepIn K (.ref a_l_same) = true
  (a_law : Addr) (d_law : FuncData)
  F_law : Fun K "law" "law" s_law a_law d_law
  b_law : Binds K d_law P_law []
  g_law : mg "law" = some (.ref a_law)
  k_law : PySem.W.keepIn K (.ref a_law) = true
  (t_MOST_SIZE : Tok)
  g_MOST_SIZE : mg "MOST_SIZE" = some (.int (4) t_MOST_SIZE)
  (t_MOST_STANDINGS : Tok)
  g_MOST_STANDINGS : mg "MOST_STANDINGS" = some (.int (20) t_MOST_STANDINGS)
  (t_MOST_SETS : Tok)
  g_MOST_SETS : mg "MOST_SETS" = some (.int (60) t_MOST_SETS)
  (t_DEAD : Tok)
  g_DEAD : mg "DEAD" = some (.int (-1) t_DEAD)
  n_abs : mg "abs" = none
  n_all : mg "all" = none
  n_bool : mg "bool" = none
  n_int : mg "int" = none
  n_isinstance : mg "isinstance" = none
  n_len : mg "len" = none
  n_list : mg "list" = none
  n_range : mg "range" = none
  n_repr : mg "repr" = none
  n_sorted : mg "sorted" = none
  n_tuple : mg "tuple" = none
  n_zip : mg "zip" = none
  (a_Office : Addr)
  g_Office : mg "Office" = some (.ref a_Office)
  c_Office : Cls K a_Office
  e_Office : a_Office = He.ga K "Office"
  m_Office : Mk K a_Office a_Office_init
  f_Office_sizes : NoAttr K a_Office "sizes"
  f_Office_moves : NoAttr K a_Office "moves"
  f_Office_closings : NoAttr K a_Office "closings"
  f_Office_kept_goals : NoAttr K a_Office "kept_goals"
  t_Office_keep : Meth K a_Office "keep" a_Office_keep
  t_Office___eq__ : Meth K a_Office "__eq__" a_Office_eq
  (a_Reader : Addr)
  g_Reader : mg "Reader" = some (.ref a_Reader)
  c_Reader : Cls K a_Reader
  m_Reader : Mk K a_Reader a_Reader_init
  f_Reader_table : NoAttr K a_Reader "table"
  f_Reader_shut : NoAttr K a_Reader "shut"
  f_Reader_kept_sets : NoAttr K a_Reader "kept_sets"
  t_Reader_behind : Meth K a_Reader "behind" a_Reader_behind
  (a_Twins : Addr)
  g_Twins : mg "Twins" = some (.ref a_Twins)
  c_Twins : Cls K a_Twins
  m_Twins : Mk K a_Twins a_Twins_init
  f_Twins_kept_reader : NoAttr K a_Twins "kept_reader"
  f_Twins_by_mark : NoAttr K a_Twins "by_mark"
  t_Twins_goal : Meth K a_Twins "goal" a_Twins_goal
  t_Twins_lasts : Meth K a_Twins "lasts" a_Twins_lasts
  t_Twins_like_marks : Meth K a_Twins "like_marks" a_Twins_like_marks
  t_Twins_like_steps : Meth K a_Twins "like_steps" a_Twins_like_steps
  (a_Shop : Addr)
  g_Shop : mg "Shop" = some (.ref a_Shop)
  c_Shop : Cls K a_Shop
  m_Shop : Mk K a_Shop a_Shop_init
  f_Shop_kept_now : NoAttr K a_Shop "kept_now"
  f_Shop_kept_past : NoAttr K a_Shop "kept_past"
  t_Shop_check_standing : Meth K a_Shop "check_standing" a_Shop_check_standing
  t_Shop_check_mark : Meth K a_Shop "check_mark" a_Shop_check_mark
  t_Shop_change : Meth K a_Shop "change" a_Shop_change
  t_Shop_put : Meth K a_Shop "put" a_Shop_put
  t_Shop_strike : Meth K a_Shop "strike" a_Shop_strike
  t_Shop_add : Meth K a_Shop "add" a_Shop_add
  t_Shop_shuts : Meth K a_Shop "shuts" a_Shop_shuts
  t_Shop_shuts_not : Meth K a_Shop "shuts_not" a_Shop_shuts_not
  t_Shop_office : Meth K a_Shop "office" a_Shop_office
  t_Shop_least : Meth K a_Shop "least" a_Shop_least
  t_Shop_depth : Meth K a_Shop "depth" a_Shop_depth
end Fd
set_option Elab.async false
set_option linter.all false
set_option maxRecDepth 100000
set_option maxHeartbeats 4000000
namespace Fd
open PySem PySem.Spec PySem.Calls PyProof.Rows L2
/-- what the written part says of an own error's __init__ whose first row is super().__init__(text) -/
structure SupI (P : Program) (K : PySem.W.Frag) (C f : Addr) (F : NdefX.NF) (cc : Addr) : Prop where
  fn : ∃ (oc : Value) (od : Option Addr) (osl : Array (Option Value)) (doc pm ctv : Value), K.lookup f = some ⟨oc, od, .func (F.fd doc pm ctv), osl⟩
  cl : F.cl = [(("__class__" : Str), cc)]
  code : PySem.W.codeIn K (.ref F.c) F.qual = true
  file : ∃ (ccl : Value) (cdd : Option Addr) (vs : Array Value) (ccs : Array (Option Value)) (fl : Str) (tf : Tok), K.lookup F.c = some ⟨ccl, cdd, .fields vs, ccs⟩ ∧ vs[2]? = some (.str fl tf) ∧ ((P.main.file : Str) == fl) = true
  cell : ∃ (c1 : Value) (c2 : Option Addr) (c3 : Array (Option Value)), K.lookup cc = some ⟨c1, c2, .cell (some (.ref C)), c3⟩
  mro : PySem.W.mroIn K C (.ref C) = some true
  sup : PySem.W.ks_superIn K C C "__init__" = some (some (.builtin "ValueError.__init__"))
  sub : PySem.W.subIn K (.ref C) (.type "ValueError") = some true
  any : PySem.W.nsIn K cStatics "thirdparty.any" = some none
  oex : OexC K C
/-- the wrapper is called: the error's args are laid anew -/
theorem call_wrapped {X : Cx} {pins : List (Addr × Obj)} {σ : L2.St} {H : Hp} {s : Shared} {a C u : Addr} {us : List Value} {Q : Value → Shared → Prop} {E : Value → Shared → Prop} (T : OexC X.K C) (I : Inv X pins σ H s) (e : H a = some (exo a C none))
    (hu : s.heap.get? u = some (PySem.W.kxs_mw "ValueError.__init__" a)) (hl : us.length ≤ sizeLine) (h : ∀ s', Inv X pins σ H s' → Q .none s') : wpAny (model X.prog X.w) X.A (call (.ref u) us) Q E s := by
  obtain ⟨nm, q, N, bs, bm, sn, sub, ab, col, dd, k0, k1, k2, k3, k5, hC, hbm⟩ := T.cls
  obtain ⟨t1, ho⟩ := exo_at I.hok e
  have hC' := I.kIn _ _ hC
  obtain ⟨hp, g, d, t, os⟩ := s
  refine wpAny_call (codeAny_of_tree ?_)
  show wpAny _ X.A.in1 (callAny (.ref u) ⟨us, []⟩) _ _ _
  unfold callAny
  refine wpAny_bind (wpAny_load hu ?_)
  simp only [PySem.W.kxs_mw]
  refine PySem.W.KFB.if_so (by decide) ?_
  refine wpAny_bind (PySem.ESX.check_bound F.excBase_ValueError hC' ho rfl ?_)
  refine wpAny_bind (wpAny_pure (wpAny_pure ⟨Code.quiet_builtin _ (by decide +kernel), codeAny_builtin F.excBase_ValueError.initEntry ?_⟩))
  rw [Around.under_plainId F.excBase_ValueError.init.plain _]
  refine PySem.W.exc_init_tree (cls := .ref C) (t0 := t1) (dv := none) (c2 := .none) (c3 := .none) (b4 := .bool false) ho hl fun h' keep hx _ => ?_
  have J := I.write (t' := t) (x := a) (e := a) (o := exo a C none) (by rw [e]; exact True.intro) (.inl rfl) keep ⟨_, hx⟩ (exo_ok hx)
  have eu : upd H a (exo a C none) = H := by
    funext b
    by_cases hb : b = a
    · rw [hb, upd_same, e]
    · rw [upd_ne hb]
  rw [eu] at J
  exact h _ J
/-- the row super().__init__(text) -/
theorem sup_row {X : Cx} {pins : List (Addr × Obj)} {σ : L2.St} {H : Hp} {s : Shared} {C f cc a L : Addr} {F : NdefX.NF} {m : Str} {j : Nat} {p0 p1 p2 p3 p4 p5 : Pos} {body : List Stmt} {ar : Arg} {pl : Sem Bool} {Q : Flow → Shared → Prop}
    (S : SupI X.prog X.K C f F cc) (he : X.env = NdefX.envF F f L) (I : Inv X pins σ H s) (hp : (F.params.posonlyargs ++ F.params.args).head? = some ar) (hN : X.N[0]? = some ar.arg) (hσ : σ[0]? = some (some (.ref a))) (hv : F.scope.names.lookup ar.arg = some .local) (ha : H a = some (exo a C none))
    (hm : X.mg "super" = none) (hks : F.scope.names.lookup ("super" : Str) = some .globalImplicit) (hkc : F.scope.names.lookup ("__class__" : Str) = some .free) (htop : (X.prog.main.scope.names.lookup ("super" : Str)).isSome = false)
    (hq : ∀ s', Inv X pins σ H s' → Q .next s')
    (hint : interactive (NdefX.envF F f L) = false) (hsw : swapsWith (.Call (.Attribute (.Call (.Name "super" p0) [] [] p1) "__init__" p2) [.Constant (.str m) j p3] [] p4) none p5.line (NdefX.envF F f L) = pure false)
    (hev : eval (.Call (.Attribute (.Call (.Name "super" p0) [] [] p1) "__init__" p2) [.Constant (.str m) j p3] [] p4) (NdefX.envF F f L) = (do
      let ov ← attributeBase (.Call (.Name "super" p0) [] [] p1) "__init__" (NdefX.envF F f L) (eval (.Call (.Name "super" p0) [] [] p1) (NdefX.envF F f L))
      standAt p2.atName
      let (g, first) ← holding [ov] (getMethod ov "__init__" pl)
      callWith p4 g first (backTo p4 (starEach [.Constant (.str m) j p3] (NdefX.envF F f L))) [])) :
    _root_.PySem.wpAt (model X.prog X.w) X.A (.func body (NdefX.envF F f L)) (exec (.Expr (.Call (.Attribute (.Call (.Name "super" p0) [] [] p1) "__init__" p2) [.Constant (.str m) j p3] [] p4) p5) (NdefX.envF F f L)) Q X.xe s := by
  obtain ⟨oc, od, osl, doc, pm, ctv, lk⟩ := S.fn
  obtain ⟨ccl, cdd, vs, ccs, fl, tf, lc, hvs, hfl⟩ := S.file
  obtain ⟨c1, c2, c3, lcell⟩ := S.cell
  obtain ⟨t1, ho⟩ := exo_at I.hok ha
  have KX := I.kIn
  have kind : F.scope.kind = .function := by have z := I.ok.kind; rw [he] at z; exact z
  obtain ⟨cd, hcd, hcm⟩ : ∃ cd, PySem.W.clsIn X.K C = some cd ∧ PySem.W.alongIn X.K "__init__" ((cd.mro.dropWhile (· != .ref C)).drop 1) = some (some (.builtin "ValueError.__init__")) := by
    have z := S.sup
    unfold PySem.W.ks_superIn at z
    cases e : PySem.W.clsIn X.K C with
    | none => rw [e] at z; cases z
    | some cd => rw [e] at z; exact ⟨cd, rfl, z⟩
  obtain ⟨oD, hD1, hD2⟩ : ∃ oD, s.heap.get? C = some oD ∧ oD.data = .cls cd := by
    unfold PySem.W.clsIn at hcd
    split at hcd
    · rename_i y1 y2 y3 y4 z
      cases hcd
      exact ⟨_, KX _ _ z, rfl⟩
    · cases hcd
  have J : PySem.W.InstAt s.heap a _ C none := ⟨ho, rfl, rfl, trivial⟩
  have aC : a ≠ C := PySem.W.ks_ne KX J hcd
  obtain ⟨mb, hb1, hb2⟩ := I.mod.blt
  obtain ⟨mL, hmL, hloc⟩ := I.loc
  obtain ⟨u0, ru0, lu0⟩ := hloc 0 ar.arg (.ref a) hN hσ (.inl (by rw [he]; exact hv))
  obtain rfl : u0 = Value.ref a := ru0
  have hv' : mL ar.arg = some (.ref a) := by
    rcases lu0 with ⟨_, z⟩ | ⟨z, _⟩
    · exact z
    · rw [he] at z
      have z' : F.scope.names.lookup ar.arg = some .cell ∨ F.scope.names.lookup ar.arg = some .free := z
      rw [hv] at z'
      rcases z' with z | z <;> cases z
  rw [he] at hmL
  have hgl := I.mod.glob.keeps I.bk
  have hbl := hb1.keeps I.bk
  have hboot : mb ("super" : Str) = some (.type "super") := (hb2 ("super" : Str) (by decide)).trans PyProof.Rows.Boot.super
  refine ks_wpAt_Expr_any (ks_wpAt_MethodCall (ks_wpAt_super_base (env := NdefX.envF F f L) hks hkc (by decide) rfl (KX _ _ lk) rfl hp rfl (KX _ _ lc) rfl hvs hfl htop ?_) hev) hint hsw
  refine PySem.W.ks_loadName_global kind hks (Calls.loadGlobal_builtin (env := NdefX.envF F f L) hgl hm hbl hboot ⟨rfl, ?_⟩)
  refine wpAny_loadName_free kind hkc (c := cc) ?hclo ⟨_, KX _ _ lcell, rfl⟩ ?_
  case hclo => (show F.cl.lookup _ = _; rw [S.cl]; rfl)
  refine wpAny_loadName_local kind hv hmL hv' ?_
  obtain ⟨hp0, g, d, t, os⟩ := s
  refine ks_wpAny_isType_cls hD1 hD2 ⟨rfl, ?_⟩
  refine ks_wpAny_call_super hD1 hD2 ho rfl (fun _ z => nomatch z) (PySem.W.looks_mroIn KX S.mro) fun h1 hso k1 => ?_
  have I1 : Inv X pins σ H ⟨h1, g, d, t, os⟩ := I.kept k1
  obtain ⟨t2, ho1⟩ := exo_at I1.hok ha
  have J1 : PySem.W.InstAt h1 a _ C none := ⟨ho1, rfl, rfl, trivial⟩
  refine PySem.W.kxs_getMethod PySem.W.kxs_ValueError hso (PySem.W.looks_opaque I1.kIn S.any) ((PySem.W.looks_clsIn I1.kIn hcd).andThen .now) rfl I1.kIn hcm (J1.type.andThen (PySem.W.looks_subIn I1.kIn S.sub)) aC (by decide) ?_
  have hu : (h1.push (PySem.W.kxs_mw "ValueError.__init__" a)).get? h1.objs.size = some (PySem.W.kxs_mw "ValueError.__init__" a) := Heap.get?_push_at rfl rfl
  have I2 : Inv X pins σ H ⟨h1.push (PySem.W.kxs_mw "ValueError.__init__" a), g, d, t + 1, os⟩ := I1.kept fun b o e => Heap.get?_push_of_some _ e
  have I3 : Inv X ((h1.objs.size, PySem.W.kxs_mw "ValueError.__init__" a) :: pins) σ H ⟨h1.push (PySem.W.kxs_mw "ValueError.__init__" a), g, d, t + 1, os⟩ :=
    ⟨I2.ok, I2.os, I2.bare, I2.base, I2.loc, I2.cell, I2.free, I2.freeC, fun p hp => by
      rcases List.mem_append.mp hp with z | z
      · exact I2.pin p (List.mem_append_left _ z)
      · rcases List.mem_cons.mp z with e | z
        · rw [e]
          exact ⟨hu, I1.hok.fresh (Nat.le_refl _), Nat.ne_of_gt I1.lt, I1.nofs (Nat.le_refl _), fun _ z => nomatch z⟩
        · exact I2.pin p (List.mem_append_right _ z), I2.hok, I2.len⟩
  have R := (pa_cons (X := X) (pe_str (x := m) (j := j) (pos := p3)) pa_nil).run p4 _ _ σ H (fun vs H1 => vs = [V.str m] ∧ H1 = H) I3 ⟨rfl, rfl⟩
  rw [he] at R
  refine PySem.W.kxs_callWith (i := "ValueError.__init__") (x := a) (by rfl) (Calls.evalArgs_plain (thn R fun us s1 ⟨vs, H1, I4, r, ev, eH⟩ => ?_))
  subst ev eH
  have hu4 := (I4.pin (h1.objs.size, PySem.W.kxs_mw "ValueError.__init__" a) (List.mem_append_right _ List.mem_cons_self)).1
  have I5 : Inv X pins σ H1 s1 := ⟨I4.ok, I4.os, I4.bare, I4.base, I4.loc, I4.cell, I4.free, I4.freeC, fun p hp => I4.pin p (by
    rcases List.mem_append.mp hp with z | z
    · exact List.mem_append_left _ z
    · exact List.mem_append_right _ (List.mem_cons_of_mem _ z)), I4.hok, I4.len⟩
  refine ⟨hu4, call_wrapped S.oex I5 ha hu4 ?_ hq⟩
  show us.length ≤ sizeLine
  rw [← r.length]
  show 1 ≤ sizeLine
  decide
theorem lookup_one {x y : Str} {c d : Addr} (h : ([(x, c)] : List (Str × Addr)).lookup y = some d) : y = x ∧ d = c := by
  rw [List.lookup_cons] at h
  cases e : y == x with
  | true =>
    rw [e] at h
    exact ⟨beq_iff_eq.mp e, (Option.some.inj h).symm⟩
  | false =>
    rw [e] at h
    cases h
/-- THE RULE: an own error's __init__ that begins with super().__init__(text), by the rest of its body -/
theorem fn_super {CX : CXT} {P : Program} {w : World} {K : PySem.W.Frag} {mg : Str → Option Value} {base : Heap} {N ps : List Str} {F : NdefX.NF} {C f cc : Addr} {k : Nat} {sp : Sp} {fd : FuncData} {m : Str} {j : Nat} {p0 p1 p2 p3 p4 p5 : Pos} {rest : List Stmt} {ar : Arg} {pl : Addr → Sem Bool}
    (S : SupI P K C f F cc) (hfd : ∃ doc pm ctv, fd = F.fd doc pm ctv ∧ ∃ oc od osl, K.lookup f = some ⟨oc, od, .func fd, osl⟩) (NS : NdefX.NScope N ps [("__class__" : Str)] F.scope)
    (hbody : F.body = .Expr (.Call (.Attribute (.Call (.Name "super" p0) [] [] p1) "__init__" p2) [.Constant (.str m) j p3] [] p4) p5 :: rest) (hp : (F.params.posonlyargs ++ F.params.args).head? = some ar) (hps : ps[0]? = some ar.arg)
    (hm : mg "super" = none) (hks : F.scope.names.lookup ("super" : Str) = some .globalImplicit) (htop : (P.main.scope.names.lookup ("super" : Str)).isSome = false)
    (hint : ∀ L, interactive (NdefX.envF F f L) = false) (hsw : ∀ L, swapsWith (.Call (.Attribute (.Call (.Name "super" p0) [] [] p1) "__init__" p2) [.Constant (.str m) j p3] [] p4) none p5.line (NdefX.envF F f L) = pure false)
    (hev : ∀ L, eval (.Call (.Attribute (.Call (.Name "super" p0) [] [] p1) "__init__" p2) [.Constant (.str m) j p3] [] p4) (NdefX.envF F f L) = (do
      let ov ← attributeBase (.Call (.Name "super" p0) [] [] p1) "__init__" (NdefX.envF F f L) (eval (.Call (.Name "super" p0) [] [] p1) (NdefX.envF F f L))
      standAt p2.atName
      let (g, first) ← holding [ov] (getMethod ov "__init__" (pl L))
      callWith p4 g first (backTo p4 (starEach [.Constant (.str m) j p3] (NdefX.envF F f L))) []))
    (len : ∀ vs H Q E, sp vs H Q E → vs.length = ps.length) (self : ∀ vs H Q E, sp vs H Q E → ∃ a, vs[0]? = some (.ref a) ∧ H a = some (exo a C none))
    (hrest : ∀ (A : Around) (outer : List Env) (s : Shared) (H : Hp) (vs : List V) (Q : VK) (E : XK), Room k (A.deeper (NdefX.envF F f s.heap.objs.size)) → sp vs H Q E →
      ∃ t, PSs (NdefX.ncx CX P w K mg base N F f A outer s H E) rest t ∧ t { nx := fun _ H' => Q .non H', rt := Q } (NdefX.startF N vs [none]) H) : FnOk P w K mg base CX (k + 1) f fd ps sp := by
  obtain ⟨doc, pm, ctv, rfl, oc, od, osl, lk⟩ := hfd
  refine ⟨len, fun A outer s H args us vs Q E hr e0 hb r hsp => ?_⟩
  have hl := len _ _ _ _ hsp
  have KX : K.In s.heap := e0.mod.kin.keeps fun b o e => (e0.bs b o e).1
  have lim : s.heap.NoLimit := e0.mod.nolimit.keeps fun b o e => (e0.bs b o e).1
  obtain ⟨a, ha0, haH⟩ := self _ _ _ _ hsp
  obtain ⟨c1, c2, c3, lcell⟩ := S.cell
  have cat : NdefX.CellsAt F.cl [("__class__" : Str)] [none] s.heap H := by
    rw [S.cl]
    refine ⟨rfl, fun y c e => ?_, fun x y c e1 e2 => ?_, fun i y e => ?_⟩
    · obtain ⟨_, rfl⟩ := lookup_one e
      exact ⟨(e0.bs _ _ (e0.mod.kin _ _ lcell)).2, _, _, KX _ _ lcell, rfl⟩
    · exact (lookup_one e1).1.trans (lookup_one e2).1.symm
    · cases i with
      | zero =>
        cases e
        exact ⟨cc, rfl, fun v z => nomatch z⟩
      | succ i => cases e
  refine codeAny_call_function hr.depth (KX _ _ lk) rfl NS.co NS.gen rfl (PySem.W.codeRec_of KX S.code) (hb _ _ _ _ ?_)
  refine wpAny_newFunctionEnv NS.nocell (fun ⟨n, _⟩ hy => NS.par n (List.of_mem_zip hy).1) (fun h1 hns hsb => ⟨lim.fresh _ hsb, ?_⟩) NS.kind
  have kp : ∀ b o, s.heap.get? b = some o → h1.get? b = some o := fun b o e => hsb.extBut b o (Nat.ne_of_lt (Heap.lt_size e)) (Heap.get?_push_of_some _ e)
  obtain ⟨t, ht, hq⟩ := hrest A outer s H vs Q E (hr.deeper _) hsp
  have I := NdefX.inv_startN (CX := CX) (E := E) (f := f) (tk := s.toks + (ps.zip us).length) NS hr.hd e0 hl r cat hns kp
  show codeAny _ _ (.func F.body (NdefX.envF F f s.heap.objs.size)) _ _
  refine ks_codeAny_funcAt ?_
  rw [hbody]
  have hl0 : 0 < ps.length := (List.getElem?_eq_some_iff.mp hps).1
  have par : ar.arg ∈ ps := List.mem_of_getElem? hps
  have hN0 : N[0]? = some ar.arg := by
    have q := congrArg (fun l : List Str => l[0]?) NS.pre
    have q2 : (N.take (ps.length + [("__class__" : Str)].length))[0]? = (ps ++ [("__class__" : Str)])[0]? := q
    rw [List.getElem?_take_of_lt (by omega), List.getElem?_append_left hl0, hps] at q2
    exact q2
  have hσ0 : (NdefX.startF N vs [none])[0]? = some (some (.ref a)) := by
    unfold NdefX.startF
    rw [List.getElem?_append_left (by rw [List.length_map]; omega), List.getElem?_map, ha0]; rfl
  refine ks_wpAt_execs_cons (sup_row (X := NdefX.ncx CX P w K mg base N F f A outer s H E) S rfl I hp hN0 hσ0 (NS.par _ par) haH hm hks (NS.frk _ (by simp)) htop (fun s' J => ?_) (hint _) (hsw _) (hev _))
  refine wpAt_of_wpAny (wpAny_mono (ht.run [] s' _ H _ J hq) (fun fl s' hs => ?_) fun e s' hs => hs)
  have fin : ∀ {σ' : L2.St} {H' : Hp} {v : V} {u : Value}, Inv (NdefX.ncx CX P w K mg base N F f A outer s H E) [] σ' H' s' → L2.RelV v u → Q v H' → CE outer P w H s Q u s' :=
    fun {σ' H' v u} J rv q => ⟨v, H', J.os, J.bare, J.base, J.hok, rv, q⟩
  cases fl with
  | ret u =>
    obtain ⟨v, σ', H', J, rv, q⟩ := hs
    exact fin J rv q
  | next =>
    obtain ⟨σ', H', J, q⟩ := hs
    exact fin (v := V.non) (u := Value.none) J rfl q
  | brk =>
    obtain ⟨_, _, _, q⟩ := hs
    exact False.elim q
  | cont =>
    obtain ⟨_, _, _, q⟩ := hs
    exact False.elim q
end Fd
set_option Elab.async false
set_option linter.all false
set_option maxRecDepth 100000
set_option maxHeartbeats 4000000
namespace Fd
open PySem PySem.Spec PyProof.Rows L2 PySem.W
section
variable {X : Cx}
theorem reads_all {β : Type} {R : V → β → Prop} {enc : β → PyData} {pins : List (Addr × Obj)} {σ : L2.St} {H : Hp} {s : Shared} (I : Inv X pins σ H s) (hd : ∀ v b, R v b → Dp X.K H v (enc b)) : ∀ {vs : List V} {us : List Value} {bs : List β}, Vals vs us → Paired R vs bs → ∃ as, ReadsAll s.heap us (bs.map enc) as
  | _, _, _, .nil, .nil => ⟨_, .nil⟩
  | _, _, _, .cons r t, .cons h q => by
    obtain ⟨a1, r1⟩ := Dp.reads I _ _ _ (hd _ _ h) r
    obtain ⟨a2, r2⟩ := reads_all I hd t q
    exact ⟨_, .cons r1 r2⟩
theorem vals_at : ∀ {vs : List V} {us : List Value} {i : Nat} {u : Value}, Vals vs us → us[i]? = some u → ∃ v, vs[i]? = some v ∧ RelV v u
  | _, _, _, _, .nil, e => by simp at e
  | _, _, 0, _, .cons r _, e => by
    have e' := Option.some.inj (by simpa using e)
    subst e'
    exact ⟨_, rfl, r⟩
  | _, _, i + 1, _, .cons _ t, e => by
    obtain ⟨v, h1, h2⟩ := vals_at (i := i) t (by simpa using e)
    exact ⟨v, by simpa using h1, h2⟩
/-- min of a list of data, the first of the least -/
def rMinD (K : Frag) : List V → Hp → VK → Prop := fun xs H Q => ∃ (a : Addr) (vs : List V) (β : Type) (R : V → β → Prop) (enc : β → PyData) (b0 : β) (bs : List β), xs = [.ref a] ∧ (SqL K H a vs ∧ Paired R vs (b0 :: bs)) ∧ (∀ v b, R v b → Dp K H v (enc b)) ∧
  (AlikeAll ((b0 :: bs).map enc) ∧ PyData.depthAll ((b0 :: bs).map enc) ≤ 60) ∧ ∀ v b, b ∈ b0 :: bs → R v b → enc b = minD (enc b0) (bs.map enc) → Q v H
theorem cr_minD {k : Nat} (hr : Room k X.A) (hh : X.calm = true) : CallR X (.builtin "min") (rMinD X.K) := by
  intro pins s σ H xs us Q I r h
  obtain ⟨a, vs, β, R, enc, b0, bs, rfl, ⟨hs, pr⟩, hd, ⟨al, dp⟩, q⟩ := h
  obtain ⟨its, rv, hl, hz⟩ := I.list hs
  obtain ⟨u, rfl, ru⟩ := vals1 r
  obtain rfl : u = Value.ref a := ru
  obtain ⟨as, ra⟩ := reads_all I hd rv pr
  have hu := hr.un
  refine min_list_data (I.ok.hd hh) hl.isList (x := enc b0) (xs := bs.map enc) (as := as) (by simpa using ra) al (by show X.A.units + 1 + PyData.depthAll ((b0 :: bs).map enc) < cLine; omega) fun i v h' tk bs' hv hr' hk => ?_
  have hv' : its[i]? = some v := by simpa using hv
  obtain ⟨w, hw, rw'⟩ := vals_at rv hv'
  obtain ⟨b, hb, rb⟩ := pgetL pr hw
  have J : Inv X pins σ H { s with heap := h', toks := tk } := I.kept hk
  obtain ⟨a2, r2⟩ := Dp.reads J _ _ _ (hd _ _ rb) rw'
  exact ⟨w, H, J, rw', q w b (List.mem_of_getElem? hb) rb (r2.unique _ _ hr').1⟩
/-- isinstance(e, c), e the error that the suite holds, of the class at D, its dict at d -/
def rIsX (K : Frag) (D a : Addr) (d : Option Addr) : List V → Hp → VK → Prop := fun xs H Q => ∃ (c : V) (cv : Value) (b : Bool), xs = [.ref a, c] ∧ (∀ u, RelV c u → u = cv) ∧ kitOne K (.ref D) cv = some b ∧ (∀ dd, d = some dd → ∃ fs, H dd = some (.xd fs)) ∧ Q (.bl b) H
theorem call_isX {a D : Addr} {d : Option Addr} {oe : Obj} {pn : List (Addr × Obj)} (C : ExcC X.K D) (hz : Zc (.ref D) d oe) (hf : ∃ vs, oe.data = .fields vs) : CallR (X.suite a ((a, oe) :: pn)) (.builtin "isinstance") (rIsX X.K D a d) := by
  intro pins s σ H xs us Q I r h
  obtain ⟨c, cv, b, rfl, hcv, e, hdd, q⟩ := h
  obtain ⟨vs, hv⟩ := hf
  obtain ⟨hz1, hz2⟩ := hz
  cases r with
  | cons rx rr =>
    cases rr with
    | cons rt rr =>
      cases rr
      cases rx
      have ecv := hcv _ rt
      subst ecv
      have hget := (I.pin (a, oe) (List.mem_append_left _ List.mem_cons_self)).1
      have nc : notCls oe = true := by unfold notCls; rw [hv]
      have hcl : (clsIn X.K D).isSome = true := by
        obtain ⟨cd, e1, _⟩ := any_some C.hd
        rw [e1]
        rfl
      have fin : ∀ od, InstAt s.heap a oe D od → wpAny (model X.prog X.w) (X.suite a ((a, oe) :: pn)).A (call (.builtin "isinstance") [.ref a, _]) (EP (X.suite a ((a, oe) :: pn)) pins σ Q) (X.suite a ((a, oe) :: pn)).xe s := fun od J =>
        kia_one (kitx_exc (od := od) hcl C.hg C.hk C.hs C.ha C.hn C.ht C.hm) I.kIn J e (fun z => nomatch z) fun tk => ⟨.bl b, H, I.kept (t' := tk) fun _ _ z => z, rfl, q⟩
      cases d with
      | none => exact fin none ⟨hget, hz1, nc, by rw [hz2]; trivial⟩
      | some dd =>
        obtain ⟨fs, hx⟩ := hdd dd rfl
        obtain ⟨mA, ⟨o, es, ep, ho, _⟩, _⟩ : ObjOk X.prog X.w H s.heap dd (.xd fs) := I.hok dd _ hx
        exact fin (some o) ⟨hget, hz1, nc, by rw [hz2]; exact ho⟩
/-- the same, whatever class the error has -/
def rIsY (K : Frag) (cls : Value) (a : Addr) (d : Option Addr) : List V → Hp → VK → Prop := fun xs H Q => ∃ D, cls = .ref D ∧ ExcC K D ∧ rIsX K D a d xs H Q
theorem call_isY {a : Addr} {cls : Value} {d : Option Addr} {oe : Obj} {pn : List (Addr × Obj)} (hz : Zc cls d oe) (hf : ∃ vs, oe.data = .fields vs) : CallR (X.suite a ((a, oe) :: pn)) (.builtin "isinstance") (rIsY X.K cls a d) := by
  intro pins s σ H xs us Q I r h
  obtain ⟨D, rfl, C, h⟩ := h
  exact call_isX C hz hf pins s σ H xs us Q I r h
/-- C(), C an own error without an __init__ of its own -/
theorem pmk_own0 {C : Addr} {bmB : List Value} {B newId initId : String} {x : Str} {p pos : Pos} (F : ExcBaseFacts B newId initId bmB) (q : excIn X.K C bmB newId = true) (gC : X.mg x = some (.ref C)) (kC : keepIn X.K (.ref C) = true) (r : Raises X (.ref C)) (hg : Gl X x)
    (hdb : (x == ("__debug__" : Str)) = false := by decide) : PMk X (.Call (.Name x p) [] [] pos) (fun _ H Q => Q (.ref C) none H) := by
  intro pins s σ H Q I h
  refine wpAny_Call_Name_kw (ld_glob I hg gC ?_ hdb)
  refine callWith_K0 I.kIn kC ?_
  obtain ⟨bm, N, nm, qn, bs, hdct, sn, sub, ab, col, dd, k0, k1, k2, k3, k5, mN, hC, hN, hni, T⟩ := exc_obj I.kIn q
  show wpAny _ _ (call (.ref C) []) _ _ _
  refine wpAny_call_exc_subT F T hC hN hni (fun h' e hm => ?_) (Nat.zero_le _)
  exact mk_of I hm r h (I.hok.gone hm.new)
end
end Fd
set_option Elab.async false
set_option linter.all false
set_option maxRecDepth 100000
set_option maxHeartbeats 4000000
/-! A head's hook with further facts: errors of one's own whose __init__ says super().__init__. -/
namespace Fd
open PySem PySem.Spec PyProof.Rows L2 PySem.W
/-- such an error: its class's name, its __init__ as the text has it, the text's file -/
structure SupD where
  cls : Str
  qual : Str
  params : Arguments
  body : List Stmt
  scope : Scope
  file : Str
abbrev SupV : Type := Option (Str × Str × Arguments × FuncBody × Scope × Addr × List Str × Addr)
def iAd (K : Frag) (c : Str) : Addr := He.ma K (He.ga K c) "__init__"
def supV (K : Frag) (c : Str) : SupV := match K.lookup (iAd K c) with
  | some ⟨_, _, .func fd, _⟩ => some (fd.name, fd.qualname, fd.params, fd.body, fd.scope, fd.globals, fd.closure.map (·.1), fd.builtins)
  | _ => none
def SupD.val (d : SupD) : SupV := some ("__init__", d.qual, d.params, .stmts d.body, d.scope, mainGlobals, ["__class__"], builtinsNs)
def fileB (K : Frag) (c : Addr) (file : Str) : Bool := match K.lookup c with
  | some ⟨_, _, .fields vs, _⟩ => (match (vs[2]? : Option Value) with
    | some (.str fl _) => file == fl
    | _ => false)
  | _ => false
def cellB (K : Frag) (cc C : Addr) : Bool := match K.lookup cc with
  | some ⟨_, _, .cell (some (.ref D)), _⟩ => decide (D = C)
  | _ => false
def initB (K : Frag) (d : SupD) : Bool := match K.lookup (iAd K d.cls) with
  | some ⟨_, _, .func fd, _⟩ => (match fd.closure, fd.code, fd.defaults, fd.kwdefaults, fd.annotations with
    | [(_, cc)], .ref c, .none, .none, none => codeIn K (.ref c) d.qual && (fileB K c d.file && cellB K cc (He.ga K d.cls))
    | _, _, _, _, _ => false)
  | _ => false
/-- an own error's class -/
def oexB (K : Frag) (C : Addr) : Bool := (match K.lookup C with
  | some ⟨.type "type", _, .cls cd, sl⟩ => (match cd.mro, sl.toList with
    | .ref C' :: bm, [_, _, _, _, some (.builtin n), _] => decide (C' = C) && (decide (n = "ValueError.__new__") && (!cd.hasDel && (cd.hasDict && PySem.HandSPX.refsVE bm)))
    | _, _ => false)
  | _ => false) && (decide (findIn K (.ref C) "__setattr__" = some (some (.builtin "object.__setattr__"))) && (decide (subIn K (.ref C) (.type "BaseException") = some true) && (decide (typeIn K (.ref C) = some (.type "type")) && keepIn K (.ref C))))
theorem oexB_ok {K : Frag} {C : Addr} (h : oexB K C = true) : OexC K C := by
  unfold oexB at h
  obtain ⟨h1, h⟩ := He.ba h
  obtain ⟨h2, h⟩ := He.ba h
  obtain ⟨h3, h⟩ := He.ba h
  obtain ⟨h4, h5⟩ := He.ba h
  refine ⟨?_, of_decide_eq_true h2, of_decide_eq_true h3, of_decide_eq_true h4, h5⟩
  split at h1
  · rename_i dd cd sl ho
    split at h1
    · rename_i C' bm k0 k1 k2 k3 n k5 hm hs
      obtain ⟨e1, h1⟩ := He.ba h1
      obtain ⟨e2, h1⟩ := He.ba h1
      obtain ⟨e3, h1⟩ := He.ba h1
      obtain ⟨e4, e5⟩ := He.ba h1
      obtain rfl := of_decide_eq_true e1
      obtain rfl := of_decide_eq_true e2
      obtain ⟨nm, bs, mro, ns, qn, hd, sn, sub, ab, col, del⟩ := cd
      dsimp only at hm e3 e4
      subst hm e4
      obtain rfl : del = false := by simpa using e3
      obtain ⟨l⟩ := sl
      have hs' : l = [k0, k1, k2, k3, some (.builtin "ValueError.__new__"), k5] := hs
      subst hs'
      exact ⟨nm, qn, ns, bs, bm, sn, sub, ab, col, dd, k0, k1, k2, k3, k5, ho, e5⟩
    · cases h1
  · cases h1
def supB (K : Frag) (d : SupD) : Bool := initB K d && (oexB K (He.ga K d.cls) && (decide (mroIn K (He.ga K d.cls) (.ref (He.ga K d.cls)) = some true) && (decide (ks_superIn K (He.ga K d.cls) (He.ga K d.cls) "__init__" = some (some (.builtin "ValueError.__init__"))) &&
  (decide (subIn K (.ref (He.ga K d.cls)) (.type "ValueError") = some true) && decide (nsIn K cStatics "thirdparty.any" = some none)))))
abbrev SupD.nf (d : SupD) (cc c : Addr) : NdefX.NF := ⟨"__init__", d.qual, d.params, d.body, d.scope, [(("__class__" : Str), cc)], c⟩
theorem supI_of {P : Program} {K : Frag} {d : SupD} (hP : ((P.main.file : Str) == d.file) = true) (e : supV K d.cls = d.val) (c : supB K d = true) :
    ∃ cc ca, SupI P K (He.ga K d.cls) (iAd K d.cls) (d.nf cc ca) cc ∧ ∃ fd, (∃ doc pm ctv, fd = (d.nf cc ca).fd doc pm ctv ∧ ∃ oc od osl, K.lookup (iAd K d.cls) = some ⟨oc, od, .func fd, osl⟩) := by
  unfold supB at c
  obtain ⟨c1, c⟩ := He.ba c
  obtain ⟨c2, c⟩ := He.ba c
  obtain ⟨c3, c⟩ := He.ba c
  obtain ⟨c4, c⟩ := He.ba c
  obtain ⟨c5, c6⟩ := He.ba c
  unfold supV at e
  unfold initB at c1
  cases q : K.lookup (iAd K d.cls) with
  | none =>
    rw [q] at c1
    cases c1
  | some o =>
    obtain ⟨oc, od, dt, osl⟩ := o
    rw [q] at c1 e
    cases dt with
    | func fd =>
      obtain ⟨n1, n2, n3, n4, n5, n6, n7, n8, n9, n10, n11, n12, n13, n14, n15⟩ := fd
      have e2 : (some (n1, n2, n3, n4, n5, n6, n7.map (·.1), n15) : SupV) = some (("__init__" : Str), d.qual, d.params, FuncBody.stmts d.body, d.scope, mainGlobals, [("__class__" : Str)], builtinsNs) := e
      simp only [Option.some.injEq, Prod.mk.injEq] at e2
      obtain ⟨h1, h2, h3, h4, h5, h6, h7, h8⟩ := e2
      subst h1 h2 h3 h4 h5 h6 h8
      dsimp only at c1
      split at c1
      · rename_i x cc ca
        obtain ⟨z1, z2⟩ := He.ba c1
        obtain ⟨z2, z3⟩ := He.ba z2
        have ex : x = ("__class__" : Str) := by
          have := h7
          simpa using this
        subst ex
        refine ⟨cc, ca, ⟨⟨oc, od, osl, n10, n11, n14, q⟩, rfl, z1, ?_, ?_, of_decide_eq_true c3, of_decide_eq_true c4, of_decide_eq_true c5, of_decide_eq_true c6, oexB_ok c2⟩, _, n10, n11, n14, rfl, oc, od, osl, rfl⟩
        · unfold fileB at z2
          split at z2
          · rename_i ccl cdd vs ccs hl
            split at z2
            · rename_i fl tf hv
              refine ⟨ccl, cdd, vs, ccs, fl, tf, hl, hv, ?_⟩
              rw [← eq_of_beq z2]
              exact hP
            · cases z2
          · cases z2
        · unfold cellB at z3
          split at z3
          · rename_i w1 w2 w3 w4 hl
            obtain rfl := of_decide_eq_true z3
            exact ⟨_, _, _, hl⟩
          · cases z3
      · cases c1
    | _ => cases c1
/-! ### the hook -/
def asX (g : Addr → Option Obj) (n : Nat) : List Addr := cStatics :: He.asD g n
abbrev AlX : Type := Bool × List SupV × He.AlD
def obsX (fa : List He.Fa) (fn : List He.DefD) (sd : List SupD) (xs : List (Frag → Bool)) (K : Frag) : AlX := ((xs.all fun f => f K) && sd.all fun d => supB K d, sd.map fun d => supV K d.cls, He.obsD fa fn K)
def valX (fn : List He.DefD) (sd : List SupD) : AlX := (true, sd.map SupD.val, He.valD fn)
def SaysX (fa : List He.Fa) (fn : List He.DefD) (sd : List SupD) (xs : List (Frag → Bool)) (K : Frag) : Prop := obsX fa fn sd xs K = valX fn sd
def obsXG (n : Nat) (fa : List He.Fa) (fn : List He.DefD) (sd : List SupD) (xs : List (Frag → Bool)) (g : Addr → Option Obj) : AlX := obsX fa fn sd xs (He.frG g (asX g n))
def hookX (n : Nat) (fa : List He.Fa) (fn : List He.DefD) (sd : List SupD) (xs : List (Frag → Bool)) : Hook where
  α := AlX
  obs := fun s => obsXG n fa fn sd xs s.heap.get?
  val := fun _ => valX fn sd
  says := fun _ h => ∃ K : Frag, K.In h ∧ SaysX fa fn sd xs K
  of := fun _ _ e => ⟨_, He.frG_in, e⟩
  keeps := fun _ _ _ ⟨K, hK, c⟩ k => ⟨K, Frag.In.keeps hK k, c⟩
theorem obsXG_eq {n : Nat} {fa : List He.Fa} {fn : List He.DefD} {sd : List SupD} {xs : List (Frag → Bool)} {g : Addr → Option Obj} {s : Shared} (h : ∀ a, g a = s.heap.get? a) : obsXG n fa fn sd xs g = (hookX n fa fn sd xs).obs s := by
  have e : g = s.heap.get? := funext h
  rw [e] <;> rfl
section
variable {fa : List He.Fa} {fn : List He.DefD} {sd : List SupD} {xs : List (Frag → Bool)} {K : Frag}
theorem SaysX.d (c : SaysX fa fn sd xs K) : He.SaysD fa fn K := congrArg (fun z : AlX => z.2.2) c
theorem SaysX.fact (c : SaysX fa fn sd xs K) (i : Nat) {f : Frag → Bool} (h : xs[i]? = some f := by rfl) : f K = true := by
  have c1 := (He.ba (show ((xs.all fun f => f K) && sd.all fun d => supB K d) = true from congrArg (fun z : AlX => z.1) c)).1
  exact List.all_eq_true.mp c1 f (List.mem_of_getElem? h)
theorem SaysX.sup (c : SaysX fa fn sd xs K) (i : Nat) {d : SupD} (h : sd[i]? = some d := by rfl) : supB K d = true ∧ supV K d.cls = d.val := by
  have c1 := (He.ba (show ((xs.all fun f => f K) && sd.all fun d => supB K d) = true from congrArg (fun z : AlX => z.1) c)).2
  have e : (sd.map fun d => supV K d.cls) = sd.map SupD.val := congrArg (fun z : AlX => z.2.1) c
  have e2 : (sd.map fun d => supV K d.cls)[i]? = (sd.map SupD.val)[i]? := by rw [e]
  rw [List.getElem?_map, List.getElem?_map, h] at e2
  exact ⟨List.all_eq_true.mp c1 d (List.mem_of_getElem? h), Option.some.inj e2⟩
end
end Fd
set_option Elab.async false
set_option linter.all false
set_option maxRecDepth 100000
set_option maxHeartbeats 4000000
/-! Plain lists: sorted without doubles; rows by number. -/
namespace Fd
def uins (x : Int) : List Int → List Int
  | [] => [x]
  | y :: r => if x < y then x :: y :: r else if x = y then y :: r else y :: uins x r
def usort (xs : List Int) : List Int := xs.foldr uins []
theorem mem_uins {x z : Int} : ∀ {l : List Int}, z ∈ uins x l ↔ z = x ∨ z ∈ l
  | [] => by simp [uins]
  | y :: r => by
    unfold uins
    by_cases h1 : x < y
    · rw [if_pos h1]; simp
    · rw [if_neg h1]
      by_cases h2 : x = y
      · rw [if_pos h2, h2]; simp
      · rw [if_neg h2, List.mem_cons, mem_uins (l := r), List.mem_cons]
        constructor
        · rintro (h | h | h)
          · exact .inr (.inl h)
          · exact .inl h
          · exact .inr (.inr h)
        · rintro (h | h | h)
          · exact .inr (.inl h)
          · exact .inl h
          · exact .inr (.inr h)
theorem sorted_uins {x : Int} : ∀ {l : List Int}, l.Pairwise (· < ·) → (uins x l).Pairwise (· < ·)
  | [], _ => by simp [uins]
  | y :: r, h => by
    obtain ⟨h0, hr⟩ := List.pairwise_cons.mp h
    unfold uins
    by_cases h1 : x < y
    · rw [if_pos h1]
      refine List.pairwise_cons.mpr ⟨fun z hz => ?_, h⟩
      rcases List.mem_cons.mp hz with q | q
      · rw [q]; exact h1
      · exact Int.lt_trans h1 (h0 z q)
    · rw [if_neg h1]
      by_cases h2 : x = y
      · rw [if_pos h2]; exact h
      · rw [if_neg h2]
        refine List.pairwise_cons.mpr ⟨fun z hz => ?_, sorted_uins hr⟩
        rcases mem_uins.mp hz with q | q
        · rw [q]; omega
        · exact h0 z q
theorem mem_usort {z : Int} : ∀ {l : List Int}, z ∈ usort l ↔ z ∈ l
  | [] => by simp [usort]
  | x :: r => by
    show z ∈ uins x (usort r) ↔ _
    rw [mem_uins, mem_usort (l := r), List.mem_cons]
theorem sorted_usort : ∀ l : List Int, (usort l).Pairwise (· < ·)
  | [] => .nil
  | x :: r => sorted_uins (sorted_usort r)
theorem sorted_uniq : ∀ {a b : List Int}, a.Pairwise (· < ·) → b.Pairwise (· < ·) → (∀ x, x ∈ a ↔ x ∈ b) → a = b
  | [], [], _, _, _ => rfl
  | [], y :: r, _, _, h => by have := (h y).mpr (by simp); cases this
  | x :: r, [], _, _, h => by have := (h x).mp (by simp); cases this
  | x :: r, y :: s, h1, h2, h => by
    obtain ⟨p1, q1⟩ := List.pairwise_cons.mp h1
    obtain ⟨p2, q2⟩ := List.pairwise_cons.mp h2
    have e : x = y := by
      rcases List.mem_cons.mp ((h x).mp (by simp)) with z | z
      · exact z
      · rcases List.mem_cons.mp ((h y).mpr (by simp)) with z' | z'
        · exact z'.symm
        · have := p2 x z; have := p1 y z'; omega
    subst e
    rw [sorted_uniq q1 q2 fun z => ?_]
    constructor
    · intro hz
      rcases List.mem_cons.mp ((h z).mp (by simp [hz])) with q | q
      · have := p1 z hz; omega
      · exact q
    · intro hz
      rcases List.mem_cons.mp ((h z).mpr (by simp [hz])) with q | q
      · have := p2 z hz; omega
      · exact q
theorem sorted_lt {ys : List Int} (h : ys.Pairwise (· ≤ ·)) (n : ys.Nodup) : ys.Pairwise (· < ·) := by
  refine (h.and n).imp fun {a b} q => ?_
  have := q.1; have := q.2; omega
/-- sorted of the keys that were met -/
theorem usort_of {ys ks xs : List Int} (hp : ys.Perm ks) (hs : ys.Pairwise (· ≤ ·)) (hn : ks.Nodup) (hm : ∀ x, x ∈ ks ↔ x ∈ xs) : ys = usort xs :=
  sorted_uniq (sorted_lt hs (hp.nodup_iff.mpr hn)) (sorted_usort _) fun x => by rw [mem_usort, ← hm, hp.mem_iff]
theorem len_sub {α : Type} [DecidableEq α] : ∀ {a b : List α}, a.Nodup → (∀ x ∈ a, x ∈ b) → a.length ≤ b.length
  | [], _, _, _ => Nat.zero_le _
  | x :: r, b, h, s => by
    obtain ⟨h1, h2⟩ := List.nodup_cons.mp h
    have hx : x ∈ b := s x (by simp)
    have := len_sub (b := b.erase x) h2 fun y hy => (List.mem_erase_of_ne (fun e => h1 (by rw [← e]; exact hy))).mpr (s y (by simp [hy]))
    have e := List.length_erase_of_mem hx
    have := List.length_pos_of_mem hx
    simp only [List.length_cons]; omega
/-- a strictly ascending list of small numbers is short -/
theorem short_of {ks : List Int} {n : Nat} (hn : ks.Nodup) (h : ∀ k ∈ ks, 0 ≤ k ∧ k < n) : ks.length ≤ n := by
  have h1 : (ks.map Int.toNat).Nodup := by
    rw [List.nodup_iff_pairwise_ne, List.pairwise_map]
    refine (List.Pairwise.and_mem.mp (List.nodup_iff_pairwise_ne.mp hn)).imp fun {a b} q => ?_
    have := h a q.1; have := h b q.2.1; have := q.2.2; omega
  have h2 : (ks.map Int.toNat) ⊆ List.range n := fun x hx => by
    obtain ⟨k, hk, rfl⟩ := List.mem_map.mp hx
    have := h k hk
    exact List.mem_range.mpr (by omega)
  have := len_sub h1 fun x hx => h2 hx
  simpa using this
def addk {α : Type} [DecidableEq α] (ks : List α) (g : α) : List α := if g ∈ ks then ks else ks ++ [g]
section
variable {α : Type} [DecidableEq α] {ks : List α} {g : α}
theorem addk_nodup (h : ks.Nodup) : (addk ks g).Nodup := by
  unfold addk
  by_cases c : g ∈ ks
  · rw [if_pos c]; exact h
  · rw [if_neg c]; exact L2.nd_snoc h c
theorem mem_addk {x : α} : x ∈ addk ks g ↔ x ∈ ks ∨ x = g := by
  unfold addk
  by_cases c : g ∈ ks
  · rw [if_pos c]
    exact ⟨.inl, fun h => h.elim id fun e => by rw [e]; exact c⟩
  · rw [if_neg c]; simp
theorem keys_put {κ : Type} [DecidableEq κ] (f : α → κ) (hf : ∀ a b, f a = f b → a = b) {kvs : List (κ × L2.V)} {v : L2.V} (h : kvs.map (·.1) = ks.map f) : (L2.putK kvs (f g) v).map (·.1) = (addk ks g).map f := by
  unfold L2.putK addk
  by_cases c : g ∈ ks
  · have q : (kvs.any fun kv => decide (kv.1 = f g)) = true := by
      have : f g ∈ kvs.map (·.1) := by rw [h]; exact List.mem_map_of_mem c
      obtain ⟨p, hp, e⟩ := List.mem_map.mp this
      exact List.any_eq_true.mpr ⟨p, hp, decide_eq_true e⟩
    rw [if_pos q, if_pos c, ← h, List.map_map]
    apply List.map_congr_left
    intro p hp
    show (if p.1 = f g then (p.1, v) else p).1 = p.1
    split <;> rfl
  · have q : ¬ (kvs.any fun kv => decide (kv.1 = f g)) = true := fun q => by
      obtain ⟨p, hp, e⟩ := List.any_eq_true.mp q
      have : f g ∈ kvs.map (·.1) := by rw [← of_decide_eq_true e]; exact List.mem_map_of_mem hp
      rw [h] at this
      obtain ⟨x, hx, e⟩ := List.mem_map.mp this
      rw [hf _ _ e] at hx
      exact c hx
    rw [if_neg q, if_neg c, List.map_append, List.map_append, h]
    rfl
end
def at0 {α : Type} (xs : List (List α)) (i : Int) : List α := (xs[i.toNat]?).getD []
theorem at0_of {α : Type} {xs : List (List α)} {i : Int} {r : List α} (h : xs[i.toNat]? = some r) : at0 xs i = r := by unfold at0; rw [h]; rfl
def ran (n : Int) : List Int := (List.range n.toNat).map Int.ofNat
theorem mem_ran {n x : Int} : x ∈ ran n ↔ 0 ≤ x ∧ x < n := by
  unfold ran
  rw [List.mem_map]
  constructor
  · rintro ⟨a, h, rfl⟩
    have := List.mem_range.mp h
    simp only [Int.ofNat_eq_natCast]; omega
  · intro h
    exact ⟨x.toNat, List.mem_range.mpr (by omega), by simp only [Int.ofNat_eq_natCast]; omega⟩
/-- an office's data: sizes, moves, closings -/
structure Ofc where
  sz : List Int
  mv : List (List (List Int))
  cl : List (List Int)
/-- the goals of standings by a step -/
def goalsM (o : Ofc) (ss st : List Int) : List Int := usort (ss.flatMap fun s => (at0 o.mv s).filterMap fun m => if m.take 3 = st then m[3]? else none)
def lastsM (o : Ofc) (ss : List Int) : List Int := usort (ss.flatMap fun s => at0 o.cl s)
def stepsM (a b c : Int) : List (List Int) := ((ran a).flatMap fun s => (ran b).map fun n => [s, n]).flatMap fun x => (ran c).map fun k => x ++ [k]
end Fd
set_option Elab.async false
set_option linter.all false
set_option maxRecDepth 100000
set_option maxHeartbeats 4000000
namespace Fd
open PySem PySem.Spec PyProof.Rows L2
abbrev s_TooMany_init : Stmt := inClass (top 4) 0
abbrev P_TooMany_init : List Str := ["self", "most"]
abbrev N_TooMany_init : List Str := ["self", "most", "__class__"]
def D_TooMany : SupD := ⟨"TooMany", "TooMany.__init__", defArgs s_TooMany_init, defBody s_TooMany_init, defScope s_TooMany_init, "/claim/cut.py"⟩
theorem sc_TooMany_init : NdefX.NScope N_TooMany_init P_TooMany_init ["__class__"] (defScope s_TooMany_init) := NdefX.nscope_by (by decide +kernel)
abbrev s_BadOffice_init : Stmt := inClass (top 3) 0
abbrev P_BadOffice_init : List Str := ["self", "part"]
abbrev N_BadOffice_init : List Str := ["self", "part", "__class__"]
def D_BadOffice : SupD := ⟨"BadOffice", "BadOffice.__init__", defArgs s_BadOffice_init, defBody s_BadOffice_init, defScope s_BadOffice_init, "/claim/cut.py"⟩
theorem sc_BadOffice_init : NdefX.NScope N_BadOffice_init P_BadOffice_init ["__class__"] (defScope s_BadOffice_init) := NdefX.nscope_by (by decide +kernel)
/-- what the top has written of the errors -/
structure Err (P : Program) (K : PySem.W.Frag) (mg : Str → Option Value) where
  (a_FalseError a_NoStep a_NoMark a_NoStanding a_NoMove a_TooMany a_BadOffice f_TooMany f_BadOffice cc_TooMany ca_TooMany cc_BadOffice ca_BadOffice : Addr)
  (d_TooMany_init : FuncData)
  (d_BadOffice_init : FuncData)
  g_FalseError : mg "FalseError" = some (.ref a_FalseError)
  g_NoStep : mg "NoStep" = some (.ref a_NoStep)
  g_NoMark : mg "NoMark" = some (.ref a_NoMark)
  g_NoStanding : mg "NoStanding" = some (.ref a_NoStanding)
  g_NoMove : mg "NoMove" = some (.ref a_NoMove)
  g_TooMany : mg "TooMany" = some (.ref a_TooMany)
  g_BadOffice : mg "BadOffice" = some (.ref a_BadOffice)
  a_Office : Addr
  g_Office : mg "Office" = some (.ref a_Office)
  n_super : mg "super" = none
  x_NoStep : PySem.W.excIn K a_NoStep He.veBase "ValueError.__new__" = true
  k_NoStep : PySem.W.keepIn K (.ref a_NoStep) = true
  s_NoStep : PySem.W.subIn K (.ref a_NoStep) (.type "BaseException") = some true
  t_NoStep : PySem.W.typeIn K (.ref a_NoStep) = some (.type "type")
  x_NoMark : PySem.W.excIn K a_NoMark He.veBase "ValueError.__new__" = true
  k_NoMark : PySem.W.keepIn K (.ref a_NoMark) = true
  s_NoMark : PySem.W.subIn K (.ref a_NoMark) (.type "BaseException") = some true
  t_NoMark : PySem.W.typeIn K (.ref a_NoMark) = some (.type "type")
  x_NoStanding : PySem.W.excIn K a_NoStanding He.veBase "ValueError.__new__" = true
  k_NoStanding : PySem.W.keepIn K (.ref a_NoStanding) = true
  s_NoStanding : PySem.W.subIn K (.ref a_NoStanding) (.type "BaseException") = some true
  t_NoStanding : PySem.W.typeIn K (.ref a_NoStanding) = some (.type "type")
  x_NoMove : PySem.W.excIn K a_NoMove He.veBase "ValueError.__new__" = true
  k_NoMove : PySem.W.keepIn K (.ref a_NoMove) = true
  s_NoMove : PySem.W.subIn K (.ref a_NoMove) (.type "BaseException") = some true
  t_NoMove : PySem.W.typeIn K (.ref a_NoMove) = some (.type "type")
  u_TooMany : SupI P K a_TooMany f_TooMany (D_TooMany.nf cc_TooMany ca_TooMany) cc_TooMany
  fd_TooMany : ∃ doc pm ctv, d_TooMany_init = (D_TooMany.nf cc_TooMany ca_TooMany).fd doc pm ctv ∧ ∃ oc od osl, K.lookup f_TooMany = some ⟨oc, od, .func d_TooMany_init, osl⟩
  i_TooMany : PySem.W.findIn K (.ref a_TooMany) "__init__" = some (some (.ref f_TooMany))
  t_TooMany : PySem.W.typeIn K (.ref f_TooMany) = some (.type "function")
  no_TooMany : PySem.W.findIn K (.ref a_TooMany) "most" = some none
  b_TooMany_init : Binds K d_TooMany_init P_TooMany_init []
  u_BadOffice : SupI P K a_BadOffice f_BadOffice (D_BadOffice.nf cc_BadOffice ca_BadOffice) cc_BadOffice
  fd_BadOffice : ∃ doc pm ctv, d_BadOffice_init = (D_BadOffice.nf cc_BadOffice ca_BadOffice).fd doc pm ctv ∧ ∃ oc od osl, K.lookup f_BadOffice = some ⟨oc, od, .func d_BadOffice_init, osl⟩
  i_BadOffice : PySem.W.findIn K (.ref a_BadOffice) "__init__" = some (some (.ref f_BadOffice))
  t_BadOffice : PySem.W.typeIn K (.ref f_BadOffice) = some (.type "function")
  no_BadOffice : PySem.W.findIn K (.ref a_BadOffice) "part" = some none
  b_BadOffice_init : Binds K d_BadOffice_init P_BadOffice_init []
def sp_many (C : Addr) : Sp := fun xs H Q _ => ∃ a m, xs = [.ref a, .int m] ∧ H a = some (exo a C none) ∧ ∀ dx, H dx = none → dx ≠ a → Q .non (upd (upd H dx (exd dx [("most", .int m)])) a (exo a C (some dx)))
theorem ok_TooMany_init {P : Program} {w : World} {K : PySem.W.Frag} {mg : Str → Option Value} {base : Heap} {CX : CXT} (Er : Err P K mg) (htop : (P.main.scope.names.lookup ("super" : Str)).isSome = false) : FnOk P w K mg base CX 1 Er.f_TooMany Er.d_TooMany_init P_TooMany_init (sp_many Er.a_TooMany) := by
  refine fn_super Er.u_TooMany Er.fd_TooMany sc_TooMany_init rfl rfl rfl Er.n_super (show (defScope s_TooMany_init).names.lookup ("super" : Str) = some .globalImplicit by decide +kernel) htop (fun L => rfl) (fun L => rfl) (fun L => rfl) ?_ ?_ ?_
  · rintro vs H Q E ⟨a, m, rfl, _⟩
    rfl
  · rintro vs H Q E ⟨a, m, rfl, h, _⟩
    exact ⟨a, rfl, h⟩
  · rintro A outer s H vs Q E hr ⟨a, m, rfl, h, q⟩
    refine ⟨_, pss_one (ps_ost (pv 0) (pv 1)), ?_⟩
    exact ⟨_, rfl, _, rfl, a, Er.a_TooMany, rfl, Er.u_TooMany.oex, Er.no_TooMany, .inl ⟨h, q⟩⟩
def sp_bad (C : Addr) : Sp := fun xs H Q _ => ∃ a m, xs = [.ref a, .str m] ∧ H a = some (exo a C none) ∧ ∀ dx, H dx = none → dx ≠ a → Q .non (upd (upd H dx (exd dx [("part", .str m)])) a (exo a C (some dx)))
theorem ok_BadOffice_init {P : Program} {w : World} {K : PySem.W.Frag} {mg : Str → Option Value} {base : Heap} {CX : CXT} (Er : Err P K mg) (htop : (P.main.scope.names.lookup ("super" : Str)).isSome = false) : FnOk P w K mg base CX 1 Er.f_BadOffice Er.d_BadOffice_init P_BadOffice_init (sp_bad Er.a_BadOffice) := by
  refine fn_super Er.u_BadOffice Er.fd_BadOffice sc_BadOffice_init rfl rfl rfl Er.n_super (show (defScope s_BadOffice_init).names.lookup ("super" : Str) = some .globalImplicit by decide +kernel) htop (fun L => rfl) (fun L => rfl) (fun L => rfl) ?_ ?_ ?_
  · rintro vs H Q E ⟨a, m, rfl, _⟩
    rfl
  · rintro vs H Q E ⟨a, m, rfl, h, _⟩
    exact ⟨a, rfl, h⟩
  · rintro A outer s H vs Q E hr ⟨a, m, rfl, h, q⟩
    refine ⟨_, pss_one (ps_ost (pv 0) (pv 1)), ?_⟩
    exact ⟨_, rfl, _, rfl, a, Er.a_BadOffice, rfl, Er.u_BadOffice.oex, Er.no_BadOffice, .inl ⟨h, q⟩⟩
end Fd
set_option Elab.async false
set_option linter.all false
set_option maxRecDepth 100000
set_option maxHeartbeats 4000000
namespace Fd
open PySem PySem.Spec PyProof.Rows L2 PySem.W
/-- what else the top has written of the class Office -/
structure ErrQ {P : Program} {K : PySem.W.Frag} {mg : Str → Option Value} (Er : Err P K mg) : Prop where
  o1 : PySem.W.findIn K (.ref Er.a_Office) "__class__" = some (some (.builtin "object.__class__"))
  o2 : PySem.W.specialIn K (.builtin "object.__class__") "__get__" = some (some (.builtin "getset_descriptor.__get__"))
  o3 : PySem.W.takesIn K (.builtin "object.__class__") = some true
  o4 : PySem.W.mroIn K Er.a_Office (.type "object") = some true
  o7 : kitOne K (.ref Er.a_Office) (.ref Er.a_Office) = some true
end Fd
set_option Elab.async false
set_option linter.all false
set_option maxRecDepth 100000
set_option maxHeartbeats 0
namespace Fd
open PySem PySem.Spec PyProof.Rows L2
def D_is_integer : He.DefD := ⟨("is_integer", none), "is_integer", "is_integer", defArgs s_is_integer, defBody s_is_integer, defScope s_is_integer, [], []⟩
def D_is_within : He.DefD := ⟨("is_within", none), "is_within", "is_within", defArgs s_is_within, defBody s_is_within, defScope s_is_within, [], []⟩
def D_is_pair : He.DefD := ⟨("is_pair", none), "is_pair", "is_pair", defArgs s_is_pair, defBody s_is_pair, defScope s_is_pair, [], []⟩
def D_is_triple : He.DefD := ⟨("is_triple", none), "is_triple", "is_triple", defArgs s_is_triple, defBody s_is_triple, defScope s_is_triple, [], []⟩
def D_are_ascending : He.DefD := ⟨("are_ascending", none), "are_ascending", "are_ascending", defArgs s_are_ascending, defBody s_are_ascending, defScope s_are_ascending, [], []⟩
def D_are_sizes : He.DefD := ⟨("are_sizes", none), "are_sizes", "are_sizes", defArgs s_are_sizes, defBody s_are_sizes, defScope s_are_sizes, [], []⟩
def D_is_move : He.DefD := ⟨("is_move", none), "is_move", "is_move", defArgs s_is_move, defBody s_is_move, defScope s_is_move, [], []⟩
def D_are_moves : He.DefD := ⟨("are_moves", none), "are_moves", "are_moves", defArgs s_are_moves, defBody s_are_moves, defScope s_are_moves, [], []⟩
def D_are_closings : He.DefD := ⟨("are_closings", none), "are_closings", "are_closings", defArgs s_are_closings, defBody s_are_closings, defScope s_are_closings, [], []⟩
def D_Office_init : He.DefD := ⟨("Office", some "__init__"), "__init__", "Office.__init__", defArgs s_Office_init, defBody s_Office_init, defScope s_Office_init, [], []⟩
def D_Office_keep : He.DefD := ⟨("Office", some "keep"), "keep", "Office.keep", defArgs s_Office_keep, defBody s_Office_keep, defScope s_Office_keep, [], []⟩
def D_Office_eq : He.DefD := ⟨("Office", some "__eq__"), "__eq__", "Office.__eq__", defArgs s_Office_eq, defBody s_Office_eq, defScope s_Office_eq, [], []⟩
def D_is_mark : He.DefD := ⟨("is_mark", none), "is_mark", "is_mark", defArgs s_is_mark, defBody s_is_mark, defScope s_is_mark, [], []⟩
def D_is_note : He.DefD := ⟨("is_note", none), "is_note", "is_note", defArgs s_is_note, defBody s_is_note, defScope s_is_note, [], []⟩
def D_is_step : He.DefD := ⟨("is_step", none), "is_step", "is_step", defArgs s_is_step, defBody s_is_step, defScope s_is_step, [], []⟩
def D_goals_of : He.DefD := ⟨("goals_of", none), "goals_of", "goals_of", defArgs s_goals_of, defBody s_goals_of, defScope s_goals_of, [], []⟩
def D_all_steps : He.DefD := ⟨("all_steps", none), "all_steps", "all_steps", defArgs s_all_steps, defBody s_all_steps, defScope s_all_steps, [], []⟩
def D_Reader_init : He.DefD := ⟨("Reader", some "__init__"), "__init__", "Reader.__init__", defArgs s_Reader_init, defBody s_Reader_init, defScope s_Reader_init, [], []⟩
def D_Reader_behind : He.DefD := ⟨("Reader", some "behind"), "behind", "Reader.behind", defArgs s_Reader_behind, defBody s_Reader_behind, defScope s_Reader_behind, [], []⟩
def D_lasts_of : He.DefD := ⟨("lasts_of", none), "lasts_of", "lasts_of", defArgs s_lasts_of, defBody s_lasts_of, defScope s_lasts_of, [], []⟩
def D_sorted_by_marks : He.DefD := ⟨("sorted_by_marks", none), "sorted_by_marks", "sorted_by_marks", defArgs s_sorted_by_marks, defBody s_sorted_by_marks, defScope s_sorted_by_marks, [], []⟩
def D_Twins_init : He.DefD := ⟨("Twins", some "__init__"), "__init__", "Twins.__init__", defArgs s_Twins_init, defBody s_Twins_init, defScope s_Twins_init, [], []⟩
def D_Twins_goal : He.DefD := ⟨("Twins", some "goal"), "goal", "Twins.goal", defArgs s_Twins_goal, defBody s_Twins_goal, defScope s_Twins_goal, [], []⟩
def D_Twins_lasts : He.DefD := ⟨("Twins", some "lasts"), "lasts", "Twins.lasts", defArgs s_Twins_lasts, defBody s_Twins_lasts, defScope s_Twins_lasts, [], []⟩
def D_Twins_like_marks : He.DefD := ⟨("Twins", some "like_marks"), "like_marks", "Twins.like_marks", defArgs s_Twins_like_marks, defBody s_Twins_like_marks, defScope s_Twins_like_marks, [], []⟩
def D_Twins_like_steps : He.DefD := ⟨("Twins", some "like_steps"), "like_steps", "Twins.like_steps", defArgs s_Twins_like_steps, defBody s_Twins_like_steps, defScope s_Twins_like_steps, [], []⟩
def D_first_level : He.DefD := ⟨("first_level", none), "first_level", "first_level", defArgs s_first_level, defBody s_first_level, defScope s_first_level, [], []⟩
def D_next_level : He.DefD := ⟨("next_level", none), "next_level", "next_level", defArgs s_next_level, defBody s_next_level, defScope s_next_level, [], []⟩
def D_are_alike : He.DefD := ⟨("are_alike", none), "are_alike", "are_alike", defArgs s_are_alike, defBody s_are_alike, defScope s_are_alike, [], []⟩
def D_begin_triple : He.DefD := ⟨("begin_triple", none), "begin_triple", "begin_triple", defArgs s_begin_triple, defBody s_begin_triple, defScope s_begin_triple, [], []⟩
def D_ways_on : He.DefD := ⟨("ways_on", none), "ways_on", "ways_on", defArgs s_ways_on, defBody s_ways_on, defScope s_ways_on, [], []⟩
def D_goals_on : He.DefD := ⟨("goals_on", none), "goals_on", "goals_on", defArgs s_goals_on, defBody s_goals_on, defScope s_goals_on, [], []⟩
def D_lasts_against : He.DefD := ⟨("lasts_against", none), "lasts_against", "lasts_against", defArgs s_lasts_against, defBody s_lasts_against, defScope s_lasts_against, [], []⟩
def D_all_triples : He.DefD := ⟨("all_triples", none), "all_triples", "all_triples", defArgs s_all_triples, defBody s_all_triples, defScope s_all_triples, [], []⟩
def D_elders_of : He.DefD := ⟨("elders_of", none), "elders_of", "elders_of", defArgs s_elders_of, defBody s_elders_of, defScope s_elders_of, [], []⟩
def D_bad_pairs : He.DefD := ⟨("bad_pairs", none), "bad_pairs", "bad_pairs", defArgs s_bad_pairs, defBody s_bad_pairs, defScope s_bad_pairs, [], []⟩
def D_bad_of : He.DefD := ⟨("bad_of", none), "bad_of", "bad_of", defArgs s_bad_of, defBody s_bad_of, defScope s_bad_of, [], []⟩
def D_still_level : He.DefD := ⟨("still_level", none), "still_level", "still_level", defArgs s_still_level, defBody s_still_level, defScope s_still_level, [], []⟩
def D_least_k : He.DefD := ⟨("least_k", none), "least_k", "least_k", defArgs s_least_k, defBody s_least_k, defScope s_least_k, [], []⟩
def D_with_item : He.DefD := ⟨("with_item", none), "with_item", "with_item", defArgs s_with_item, defBody s_with_item, defScope s_with_item, [], []⟩
def D_exchanged : He.DefD := ⟨("exchanged", none), "exchanged", "exchanged", defArgs s_exchanged, defBody s_exchanged, defScope s_exchanged, [], []⟩
def D_Shop_init : He.DefD := ⟨("Shop", some "__init__"), "__init__", "Shop.__init__", defArgs s_Shop_init, defBody s_Shop_init, defScope s_Shop_init, [], []⟩
def D_Shop_check_standing : He.DefD := ⟨("Shop", some "check_standing"), "check_standing", "Shop.check_standing", defArgs s_Shop_check_standing, defBody s_Shop_check_standing, defScope s_Shop_check_standing, [], []⟩
def D_Shop_check_mark : He.DefD := ⟨("Shop", some "check_mark"), "check_mark", "Shop.check_mark", defArgs s_Shop_check_mark, defBody s_Shop_check_mark, defScope s_Shop_check_mark, [], []⟩
def D_Shop_change : He.DefD := ⟨("Shop", some "change"), "change", "Shop.change", defArgs s_Shop_change, defBody s_Shop_change, defScope s_Shop_change, [], []⟩
def D_Shop_put : He.DefD := ⟨("Shop", some "put"), "put", "Shop.put", defArgs s_Shop_put, defBody s_Shop_put, defScope s_Shop_put, [], []⟩
def D_Shop_strike : He.DefD := ⟨("Shop", some "strike"), "strike", "Shop.strike", defArgs s_Shop_strike, defBody s_Shop_strike, defScope s_Shop_strike, [], []⟩
def D_Shop_add : He.DefD := ⟨("Shop", some "add"), "add", "Shop.add", defArgs s_Shop_add, defBody s_Shop_add, defScope s_Shop_add, [], []⟩
def D_Shop_shuts : He.DefD := ⟨("Shop", some "shuts"), "shuts", "Shop.shuts", defArgs s_Shop_shuts, defBody s_Shop_shuts, defScope s_Shop_shuts, [], []⟩
def D_Shop_shuts_not : He.DefD := ⟨("Shop", some "shuts_not"), "shuts_not", "Shop.shuts_not", defArgs s_Shop_shuts_not, defBody s_Shop_shuts_not, defScope s_Shop_shuts_not, [], []⟩
def D_Shop_office : He.DefD := ⟨("Shop", some "office"), "office", "Shop.office", defArgs s_Shop_office, defBody s_Shop_office, defScope s_Shop_office, [], []⟩
def D_Shop_least : He.DefD := ⟨("Shop", some "least"), "least", "Shop.least", defArgs s_Shop_least, defBody s_Shop_least, defScope s_Shop_least, [], []⟩
def D_Shop_depth : He.DefD := ⟨("Shop", some "depth"), "depth", "Shop.depth", defArgs s_Shop_depth, defBody s_Shop_depth, defScope s_Shop_depth, [], []⟩
def D_l_hand : He.DefD := ⟨("_law_hand", none), "_law_hand", "_law_hand", defArgs s_l_hand, defBody s_l_hand, defScope s_l_hand, [], []⟩
def D_l_draw : He.DefD := ⟨("_law_draw", none), "_law_draw", "_law_draw", defArgs s_l_draw, defBody s_l_draw, defScope s_l_draw, [], []⟩
def D_l_sizes : He.DefD := ⟨("_law_sizes", none), "_law_sizes", "_law_sizes", defArgs s_l_sizes, defBody s_l_sizes, defScope s_l_sizes, [], []⟩
def D_l_moves : He.DefD := ⟨("_law_moves", none), "_law_moves", "_law_moves", defArgs s_l_moves, defBody s_l_moves, defScope s_l_moves, [], []⟩
def D_l_closings : He.DefD := ⟨("_law_closings", none), "_law_closings", "_law_closings", defArgs s_l_closings, defBody s_l_closings, defScope s_l_closings, [], []⟩
def D_l_office : He.DefD := ⟨("_law_office", none), "_law_office", "_law_office", defArgs s_l_office, defBody s_l_office, defScope s_l_office, [], []⟩
def D_l_move : He.DefD := ⟨("_law_move", none), "_law_move", "_law_move", defArgs s_l_move, defBody s_l_move, defScope s_l_move, [], []⟩
def D_l_changed : He.DefD := ⟨("_law_changed", none), "_law_changed", "_law_changed", defArgs s_l_changed, defBody s_l_changed, defScope s_l_changed, [], []⟩
def D_l_same : He.DefD := ⟨("_law_same", none), "_law_same", "_law_same", defArgs s_l_same, defBody s_l_same, defScope s_l_same, [], []⟩
def D_law : He.DefD := ⟨("law", none), "law", "law", defArgs s_law, defBody s_law, defScope s_law, [], []⟩
def fnL : List He.DefD := [D_is_integer, D_is_within, D_is_pair, D_is_triple, D_are_ascending, D_are_sizes, D_is_move, D_are_moves, D_are_closings, D_Office_init, D_Office_keep, D_Office_eq, D_is_mark, D_is_note, D_is_step, D_goals_of, D_all_steps, D_Reader_init, D_Reader_behind, D_lasts_of] ++ [D_sorted_by_marks, D_Twins_init, D_Twins_goal, D_Twins_lasts, D_Twins_like_marks, D_Twins_like_steps, D_first_level, D_next_level, D_are_alike, D_begin_triple, D_ways_on, D_goals_on, D_lasts_against, D_all_triples, D_elders_of, D_bad_pairs, D_bad_of, D_still_level, D_least_k, D_with_item] ++ [D_exchanged, D_Shop_init, D_Shop_check_standing, D_Shop_check_mark, D_Shop_change, D_Shop_put, D_Shop_strike, D_Shop_add, D_Shop_shuts, D_Shop_shuts_not, D_Shop_office, D_Shop_least, D_Shop_depth, D_l_hand, D_l_draw, D_l_sizes, D_l_moves, D_l_closings, D_l_office, D_l_move] ++ [D_l_changed, D_l_same, D_law]
def faL : List He.Fa := ([.glo "is_integer", .glo "is_within", .glo "is_pair", .glo "is_triple", .glo "are_ascending", .glo "are_sizes", .glo "is_move", .glo "are_moves", .glo "are_closings", .glo "is_mark", .glo "is_note", .glo "is_step", .glo "goals_of", .glo "all_steps", .glo "lasts_of", .glo "sorted_by_marks", .glo "first_level", .glo "next_level", .glo "are_alike", .glo "begin_triple"] : List He.Fa) ++ ([.glo "ways_on", .glo "goals_on", .glo "lasts_against", .glo "all_triples", .glo "elders_of", .glo "bad_pairs", .glo "bad_of", .glo "still_level", .glo "least_k", .glo "with_item", .glo "exchanged", .glo "_law_hand", .glo "_law_draw", .glo "_law_sizes", .glo "_law_moves", .glo "_law_closings", .glo "_law_office", .glo "_law_move", .glo "_law_changed", .glo "_law_same"] : List He.Fa) ++ ([.glo "law", .free "abs", .free "all", .free "bool", .free "int", .free "isinstance", .free "len", .free "list", .free "range", .free "repr", .free "sorted", .free "tuple", .free "zip", .int "MOST_SIZE" (4), .int "MOST_STANDINGS" (20), .int "MOST_SETS" (60), .int "DEAD" (-1), .glo "Office", .cls "Office", .mkr "Office"] : List He.Fa) ++ ([.noat "Office" "sizes", .noat "Office" "moves", .noat "Office" "closings", .noat "Office" "kept_goals", .meth "Office" "keep", .meth "Office" "__eq__", .glo "Reader", .cls "Reader", .mkr "Reader", .noat "Reader" "table", .noat "Reader" "shut", .noat "Reader" "kept_sets", .meth "Reader" "behind", .glo "Twins", .cls "Twins", .mkr "Twins", .noat "Twins" "kept_reader", .noat "Twins" "by_mark", .meth "Twins" "goal", .meth "Twins" "lasts"] : List He.Fa) ++ ([.meth "Twins" "like_marks", .meth "Twins" "like_steps", .glo "Shop", .cls "Shop", .mkr "Shop", .noat "Shop" "kept_now", .noat "Shop" "kept_past", .meth "Shop" "check_standing", .meth "Shop" "check_mark", .meth "Shop" "change", .meth "Shop" "put", .meth "Shop" "strike", .meth "Shop" "add", .meth "Shop" "shuts", .meth "Shop" "shuts_not", .meth "Shop" "office", .meth "Shop" "least", .meth "Shop" "depth"] : List He.Fa) ++ ([.glo "FalseError", .glo "NoStep", .glo "NoMark", .glo "NoStanding", .glo "NoMove", .glo "TooMany", .glo "BadOffice", .glo "Office", .free "super"] : List He.Fa)
def looseL : List PySem.Str := (["_wall", "FalseError", "BadOffice", "TooMany", "NoStep", "NoMark", "NothingDone", "NoStanding", "NoMove", "is_integer", "is_within", "is_pair", "is_triple", "are_ascending", "MOST_SIZE", "MOST_STANDINGS", "are_sizes", "is_move", "are_moves", "are_closings"] : List PySem.Str) ++ (["Office", "is_mark", "is_note", "is_step", "goals_of", "all_steps", "MOST_SETS", "DEAD", "Reader", "lasts_of", "sorted_by_marks", "Twins", "first_level", "next_level", "are_alike", "begin_triple", "ways_on", "goals_on", "lasts_against", "all_triples"] : List PySem.Str) ++ (["elders_of", "bad_pairs", "bad_of", "still_level", "least_k", "with_item", "exchanged", "Shop", "_law_hand", "_law_draw", "_law_sizes", "_law_moves", "_law_closings", "_law_office", "_law_move", "_law_changed", "_law_same"] : List PySem.Str)
abbrev RR : PySem.W.OpenRow := PySem.W.OpenLaw.row PySem.Challenge.rw_falsedays_k89_whole_shop_by_own_list
def sdL : List SupD := [D_TooMany, D_BadOffice]
def xsL : List (PySem.W.Frag → Bool) := [
  fun K => PySem.W.excIn K (He.ga K "NoStep") He.veBase "ValueError.__new__",
  fun K => PySem.W.keepIn K (.ref (He.ga K "NoStep")),
  fun K => decide (PySem.W.subIn K (.ref (He.ga K "NoStep")) (.type "BaseException") = some true),
  fun K => decide (PySem.W.typeIn K (.ref (He.ga K "NoStep")) = some (.type "type")),
  fun K => PySem.W.excIn K (He.ga K "NoMark") He.veBase "ValueError.__new__",
  fun K => PySem.W.keepIn K (.ref (He.ga K "NoMark")),
  fun K => decide (PySem.W.subIn K (.ref (He.ga K "NoMark")) (.type "BaseException") = some true),
  fun K => decide (PySem.W.typeIn K (.ref (He.ga K "NoMark")) = some (.type "type")),
  fun K => PySem.W.excIn K (He.ga K "NoStanding") He.veBase "ValueError.__new__",
  fun K => PySem.W.keepIn K (.ref (He.ga K "NoStanding")),
  fun K => decide (PySem.W.subIn K (.ref (He.ga K "NoStanding")) (.type "BaseException") = some true),
  fun K => decide (PySem.W.typeIn K (.ref (He.ga K "NoStanding")) = some (.type "type")),
  fun K => PySem.W.excIn K (He.ga K "NoMove") He.veBase "ValueError.__new__",
  fun K => PySem.W.keepIn K (.ref (He.ga K "NoMove")),
  fun K => decide (PySem.W.subIn K (.ref (He.ga K "NoMove")) (.type "BaseException") = some true),
  fun K => decide (PySem.W.typeIn K (.ref (He.ga K "NoMove")) = some (.type "type")),
  fun K => decide (PySem.W.findIn K (.ref (He.ga K "TooMany")) "__init__" = some (some (.ref (iAd K "TooMany")))),
  fun K => decide (PySem.W.typeIn K (.ref (iAd K "TooMany")) = some (.type "function")),
  fun K => decide (PySem.W.findIn K (.ref (He.ga K "TooMany")) "most" = some none),
  fun K => decide (PySem.W.findIn K (.ref (He.ga K "BadOffice")) "__init__" = some (some (.ref (iAd K "BadOffice")))),
  fun K => decide (PySem.W.typeIn K (.ref (iAd K "BadOffice")) = some (.type "function")),
  fun K => decide (PySem.W.findIn K (.ref (He.ga K "BadOffice")) "part" = some none),
  fun K => decide (PySem.W.findIn K (.ref (He.ga K "Office")) "__class__" = some (some (.builtin "object.__class__"))),
  fun K => decide (PySem.W.specialIn K (.builtin "object.__class__") "__get__" = some (some (.builtin "getset_descriptor.__get__"))),
  fun K => decide (PySem.W.takesIn K (.builtin "object.__class__") = some true),
  fun K => decide (PySem.W.mroIn K (He.ga K "Office") (.type "object") = some true),
  fun K => decide (PySem.W.kitOne K (.ref (He.ga K "Office")) (.ref (He.ga K "Office")) = some true)]
abbrev hkk : PySem.W.Hook := hookX 5 faL fnL sdL xsL
def obb (s : PySem.W.SharedT) : AlX := obsXG 5 faL fnL sdL xsL (HandSHeadRun.getT s)
theorem obb_eq (s : PySem.W.SharedT) : obb s = hkk.obs s.abs := obsXG_eq (HandSHeadRun.getT_eq s)
theorem runn (w : World) : HandSHeadRun.RunEq RR (PySem.W.view RR.prog [66]) hkk obb 6000 looseL w := by
  intro os
  kernel_rfl
end Fd
set_option Elab.async false
set_option linter.all false
set_option maxRecDepth 100000
set_option maxHeartbeats 0
namespace Fd
open PySem PySem.Spec PyProof.Rows L2
theorem fun_ofD {K : PySem.W.Frag} {x qual : Str} {st : Stmt} {f : Addr} {fd : FuncData} (F : FunD K x qual (defArgs st) (defBody st) (defScope st) [] [] f fd) : Fun K x qual st f fd := by
  obtain ⟨oc, od, dV, kV, doc, pm, an, cdv, ct, osl, e, l, c, dv, _⟩ := F.ex
  cases dv with
  | inl h => exact ⟨⟨oc, od, kV, doc, pm, an, cdv, ct, osl, by rw [← h.2]; exact e, l, c⟩, F.kp⟩
  | inr h => exact absurd rfl h.1
theorem txt_of {K : PySem.W.Frag} {h : Heap} {mg : Str → Option Value} (X : K.In h) (G : h.Ns mainGlobals mg) (c : He.SaysD faL fnL K) : ∃ T : Txt K mg, True := by
  obtain ⟨d_is_integer, E_is_integer⟩ := c.def_ 0 (d := D_is_integer) rfl
  have F_is_integer : Fun K _ _ s_is_integer _ d_is_integer := fun_ofD E_is_integer
  have b_is_integer : Binds K d_is_integer P_is_integer [] := F_is_integer.binds fun _ _ _ _ _ _ us hl => match us, hl with | [_], _ => rfl
  obtain ⟨d_is_within, E_is_within⟩ := c.def_ 1 (d := D_is_within) rfl
  have F_is_within : Fun K _ _ s_is_within _ d_is_within := fun_ofD E_is_within
  have b_is_within : Binds K d_is_within P_is_within [] := F_is_within.binds fun _ _ _ _ _ _ us hl => match us, hl with | [_, _, _], _ => rfl
  obtain ⟨d_is_pair, E_is_pair⟩ := c.def_ 2 (d := D_is_pair) rfl
  have F_is_pair : Fun K _ _ s_is_pair _ d_is_pair := fun_ofD E_is_pair
  have b_is_pair : Binds K d_is_pair P_is_pair [] := F_is_pair.binds fun _ _ _ _ _ _ us hl => match us, hl with | [_], _ => rfl
  obtain ⟨d_is_triple, E_is_triple⟩ := c.def_ 3 (d := D_is_triple) rfl
  have F_is_triple : Fun K _ _ s_is_triple _ d_is_triple := fun_ofD E_is_triple
  have b_is_triple : Binds K d_is_triple P_is_triple [] := F_is_triple.binds fun _ _ _ _ _ _ us hl => match us, hl with | [_], _ => rfl
  obtain ⟨d_are_ascending, E_are_ascending⟩ := c.def_ 4 (d := D_are_ascending) rfl
  have F_are_ascending : Fun K _ _ s_are_ascending _ d_are_ascending := fun_ofD E_are_ascending
  have b_are_ascending : Binds K d_are_ascending P_are_ascending [] := F_are_ascending.binds fun _ _ _ _ _ _ us hl => match us, hl with | [_], _ => rfl
  obtain ⟨d_are_sizes, E_are_sizes⟩ := c.def_ 5 (d := D_are_sizes) rfl
  have F_are_sizes : Fun K _ _ s_are_sizes _ d_are_sizes := fun_ofD E_are_sizes
  have b_are_sizes : Binds K d_are_sizes P_are_sizes [] := F_are_sizes.binds fun _ _ _ _ _ _ us hl => match us, hl with | [_], _ => rfl
  obtain ⟨d_is_move, E_is_move⟩ := c.def_ 6 (d := D_is_move) rfl
  have F_is_move : Fun K _ _ s_is_move _ d_is_move := fun_ofD E_is_move
  have b_is_move : Binds K d_is_move P_is_move [] := F_is_move.binds fun _ _ _ _ _ _ us hl => match us, hl with | [_, _, _], _ => rfl
  obtain ⟨d_are_moves, E_are_moves⟩ := c.def_ 7 (d := D_are_moves) rfl
  have F_are_moves : Fun K _ _ s_are_moves _ d_are_moves := fun_ofD E_are_moves
  have b_are_moves : Binds K d_are_moves P_are_moves [] := F_are_moves.binds fun _ _ _ _ _ _ us hl => match us, hl with | [_, _], _ => rfl
  obtain ⟨d_are_closings, E_are_closings⟩ := c.def_ 8 (d := D_are_closings) rfl
  have F_are_closings : Fun K _ _ s_are_closings _ d_are_closings := fun_ofD E_are_closings
  have b_are_closings : Binds K d_are_closings P_are_closings [] := F_are_closings.binds fun _ _ _ _ _ _ us hl => match us, hl with | [_, _, _], _ => rfl
  obtain ⟨d_Office_init, E_Office_init⟩ := c.def_ 9 (d := D_Office_init) rfl
  have F_Office_init : Fun K _ _ s_Office_init _ d_Office_init := fun_ofD E_Office_init
  have b_Office_init : Binds K d_Office_init P_Office_init [] := F_Office_init.binds fun _ _ _ _ _ _ us hl => match us, hl with | [_, _, _, _], _ => rfl
  obtain ⟨d_Office_keep, E_Office_keep⟩ := c.def_ 10 (d := D_Office_keep) rfl
  have F_Office_keep : Fun K _ _ s_Office_keep _ d_Office_keep := fun_ofD E_Office_keep
  have b_Office_keep : Binds K d_Office_keep P_Office_keep [] := F_Office_keep.binds fun _ _ _ _ _ _ us hl => match us, hl with | [_, _, _, _], _ => rfl
  obtain ⟨d_Office_eq, E_Office_eq⟩ := c.def_ 11 (d := D_Office_eq) rfl
  have F_Office_eq : Fun K _ _ s_Office_eq _ d_Office_eq := fun_ofD E_Office_eq
  have b_Office_eq : Binds K d_Office_eq P_Office_eq [] := F_Office_eq.binds fun _ _ _ _ _ _ us hl => match us, hl with | [_, _], _ => rfl
  obtain ⟨d_is_mark, E_is_mark⟩ := c.def_ 12 (d := D_is_mark) rfl
  have F_is_mark : Fun K _ _ s_is_mark _ d_is_mark := fun_ofD E_is_mark
  have b_is_mark : Binds K d_is_mark P_is_mark [] := F_is_mark.binds fun _ _ _ _ _ _ us hl => match us, hl with | [_, _], _ => rfl
  obtain ⟨d_is_note, E_is_note⟩ := c.def_ 13 (d := D_is_note) rfl
  have F_is_note : Fun K _ _ s_is_note _ d_is_note := fun_ofD E_is_note
  have b_is_note : Binds K d_is_note P_is_note [] := F_is_note.binds fun _ _ _ _ _ _ us hl => match us, hl with | [_, _], _ => rfl
  obtain ⟨d_is_step, E_is_step⟩ := c.def_ 14 (d := D_is_step) rfl
  have F_is_step : Fun K _ _ s_is_step _ d_is_step := fun_ofD E_is_step
  have b_is_step : Binds K d_is_step P_is_step [] := F_is_step.binds fun _ _ _ _ _ _ us hl => match us, hl with | [_, _], _ => rfl
  obtain ⟨d_goals_of, E_goals_of⟩ := c.def_ 15 (d := D_goals_of) rfl
  have F_goals_of : Fun K _ _ s_goals_of _ d_goals_of := fun_ofD E_goals_of
  have b_goals_of : Binds K d_goals_of P_goals_of [] := F_goals_of.binds fun _ _ _ _ _ _ us hl => match us, hl with | [_, _, _], _ => rfl
  obtain ⟨d_all_steps, E_all_steps⟩ := c.def_ 16 (d := D_all_steps) rfl
  have F_all_steps : Fun K _ _ s_all_steps _ d_all_steps := fun_ofD E_all_steps
  have b_all_steps : Binds K d_all_steps P_all_steps [] := F_all_steps.binds fun _ _ _ _ _ _ us hl => match us, hl with | [_], _ => rfl
  obtain ⟨d_Reader_init, E_Reader_init⟩ := c.def_ 17 (d := D_Reader_init) rfl
  have F_Reader_init : Fun K _ _ s_Reader_init _ d_Reader_init := fun_ofD E_Reader_init
  have b_Reader_init : Binds K d_Reader_init P_Reader_init [] := F_Reader_init.binds fun _ _ _ _ _ _ us hl => match us, hl with | [_, _], _ => rfl
  obtain ⟨d_Reader_behind, E_Reader_behind⟩ := c.def_ 18 (d := D_Reader_behind) rfl
  have F_Reader_behind : Fun K _ _ s_Reader_behind _ d_Reader_behind := fun_ofD E_Reader_behind
  have b_Reader_behind : Binds K d_Reader_behind P_Reader_behind [] := F_Reader_behind.binds fun _ _ _ _ _ _ us hl => match us, hl with | [_, _, _], _ => rfl
  obtain ⟨d_lasts_of, E_lasts_of⟩ := c.def_ 19 (d := D_lasts_of) rfl
  have F_lasts_of : Fun K _ _ s_lasts_of _ d_lasts_of := fun_ofD E_lasts_of
  have b_lasts_of : Binds K d_lasts_of P_lasts_of [] := F_lasts_of.binds fun _ _ _ _ _ _ us hl => match us, hl with | [_, _], _ => rfl
  obtain ⟨d_sorted_by_marks, E_sorted_by_marks⟩ := c.def_ 20 (d := D_sorted_by_marks) rfl
  have F_sorted_by_marks : Fun K _ _ s_sorted_by_marks _ d_sorted_by_marks := fun_ofD E_sorted_by_marks
  have b_sorted_by_marks : Binds K d_sorted_by_marks P_sorted_by_marks [] := F_sorted_by_marks.binds fun _ _ _ _ _ _ us hl => match us, hl with | [_, _], _ => rfl
  obtain ⟨d_Twins_init, E_Twins_init⟩ := c.def_ 21 (d := D_Twins_init) rfl
  have F_Twins_init : Fun K _ _ s_Twins_init _ d_Twins_init := fun_ofD E_Twins_init
  have b_Twins_init : Binds K d_Twins_init P_Twins_init [] := F_Twins_init.binds fun _ _ _ _ _ _ us hl => match us, hl with | [_, _], _ => rfl
  obtain ⟨d_Twins_goal, E_Twins_goal⟩ := c.def_ 22 (d := D_Twins_goal) rfl
  have F_Twins_goal : Fun K _ _ s_Twins_goal _ d_Twins_goal := fun_ofD E_Twins_goal
  have b_Twins_goal : Binds K d_Twins_goal P_Twins_goal [] := F_Twins_goal.binds fun _ _ _ _ _ _ us hl => match us, hl with | [_, _, _], _ => rfl
  obtain ⟨d_Twins_lasts, E_Twins_lasts⟩ := c.def_ 23 (d := D_Twins_lasts) rfl
  have F_Twins_lasts : Fun K _ _ s_Twins_lasts _ d_Twins_lasts := fun_ofD E_Twins_lasts
  have b_Twins_lasts : Binds K d_Twins_lasts P_Twins_lasts [] := F_Twins_lasts.binds fun _ _ _ _ _ _ us hl => match us, hl with | [_, _], _ => rfl
  obtain ⟨d_Twins_like_marks, E_Twins_like_marks⟩ := c.def_ 24 (d := D_Twins_like_marks) rfl
  have F_Twins_like_marks : Fun K _ _ s_Twins_like_marks _ d_Twins_like_marks := fun_ofD E_Twins_like_marks
  have b_Twins_like_marks : Binds K d_Twins_like_marks P_Twins_like_marks [] := F_Twins_like_marks.binds fun _ _ _ _ _ _ us hl => match us, hl with | [_, _], _ => rfl
  obtain ⟨d_Twins_like_steps, E_Twins_like_steps⟩ := c.def_ 25 (d := D_Twins_like_steps) rfl
  have F_Twins_like_steps : Fun K _ _ s_Twins_like_steps _ d_Twins_like_steps := fun_ofD E_Twins_like_steps
  have b_Twins_like_steps : Binds K d_Twins_like_steps P_Twins_like_steps [] := F_Twins_like_steps.binds fun _ _ _ _ _ _ us hl => match us, hl with | [_, _], _ => rfl
  obtain ⟨d_first_level, E_first_level⟩ := c.def_ 26 (d := D_first_level) rfl
  have F_first_level : Fun K _ _ s_first_level _ d_first_level := fun_ofD E_first_level
  have b_first_level : Binds K d_first_level P_first_level [] := F_first_level.binds fun _ _ _ _ _ _ us hl => match us, hl with | [_], _ => rfl
  obtain ⟨d_next_level, E_next_level⟩ := c.def_ 27 (d := D_next_level) rfl
  have F_next_level : Fun K _ _ s_next_level _ d_next_level := fun_ofD E_next_level
  have b_next_level : Binds K d_next_level P_next_level [] := F_next_level.binds fun _ _ _ _ _ _ us hl => match us, hl with | [_, _], _ => rfl
  obtain ⟨d_are_alike, E_are_alike⟩ := c.def_ 28 (d := D_are_alike) rfl
  have F_are_alike : Fun K _ _ s_are_alike _ d_are_alike := fun_ofD E_are_alike
  have b_are_alike : Binds K d_are_alike P_are_alike [] := F_are_alike.binds fun _ _ _ _ _ _ us hl => match us, hl with | [_, _], _ => rfl
  obtain ⟨d_begin_triple, E_begin_triple⟩ := c.def_ 29 (d := D_begin_triple) rfl
  have F_begin_triple : Fun K _ _ s_begin_triple _ d_begin_triple := fun_ofD E_begin_triple
  have b_begin_triple : Binds K d_begin_triple P_begin_triple [] := F_begin_triple.binds fun _ _ _ _ _ _ us hl => match us, hl with | [_], _ => rfl
  obtain ⟨d_ways_on, E_ways_on⟩ := c.def_ 30 (d := D_ways_on) rfl
  have F_ways_on : Fun K _ _ s_ways_on _ d_ways_on := fun_ofD E_ways_on
  have b_ways_on : Binds K d_ways_on P_ways_on [] := F_ways_on.binds fun _ _ _ _ _ _ us hl => match us, hl with | [_, _], _ => rfl
  obtain ⟨d_goals_on, E_goals_on⟩ := c.def_ 31 (d := D_goals_on) rfl
  have F_goals_on : Fun K _ _ s_goals_on _ d_goals_on := fun_ofD E_goals_on
  have b_goals_on : Binds K d_goals_on P_goals_on [] := F_goals_on.binds fun _ _ _ _ _ _ us hl => match us, hl with | [_, _], _ => rfl
  obtain ⟨d_lasts_against, E_lasts_against⟩ := c.def_ 32 (d := D_lasts_against) rfl
  have F_lasts_against : Fun K _ _ s_lasts_against _ d_lasts_against := fun_ofD E_lasts_against
  have b_lasts_against : Binds K d_lasts_against P_lasts_against [] := F_lasts_against.binds fun _ _ _ _ _ _ us hl => match us, hl with | [_, _], _ => rfl
  obtain ⟨d_all_triples, E_all_triples⟩ := c.def_ 33 (d := D_all_triples) rfl
  have F_all_triples : Fun K _ _ s_all_triples _ d_all_triples := fun_ofD E_all_triples
  have b_all_triples : Binds K d_all_triples P_all_triples [] := F_all_triples.binds fun _ _ _ _ _ _ us hl => match us, hl with | [_, _], _ => rfl
  obtain ⟨d_elders_of, E_elders_of⟩ := c.def_ 34 (d := D_elders_of) rfl
  have F_elders_of : Fun K _ _ s_elders_of _ d_elders_of := fun_ofD E_elders_of
  have b_elders_of : Binds K d_elders_of P_elders_of [] := F_elders_of.binds fun _ _ _ _ _ _ us hl => match us, hl with | [_], _ => rfl
  obtain ⟨d_bad_pairs, E_bad_pairs⟩ := c.def_ 35 (d := D_bad_pairs) rfl
  have F_bad_pairs : Fun K _ _ s_bad_pairs _ d_bad_pairs := fun_ofD E_bad_pairs
  have b_bad_pairs : Binds K d_bad_pairs P_bad_pairs [] := F_bad_pairs.binds fun _ _ _ _ _ _ us hl => match us, hl with | [_, _], _ => rfl
  obtain ⟨d_bad_of, E_bad_of⟩ := c.def_ 36 (d := D_bad_of) rfl
  have F_bad_of : Fun K _ _ s_bad_of _ d_bad_of := fun_ofD E_bad_of
  have b_bad_of : Binds K d_bad_of P_bad_of [] := F_bad_of.binds fun _ _ _ _ _ _ us hl => match us, hl with | [_, _], _ => rfl
  obtain ⟨d_still_level, E_still_level⟩ := c.def_ 37 (d := D_still_level) rfl
  have F_still_level : Fun K _ _ s_still_level _ d_still_level := fun_ofD E_still_level
  have b_still_level : Binds K d_still_level P_still_level [] := F_still_level.binds fun _ _ _ _ _ _ us hl => match us, hl with | [_], _ => rfl
  obtain ⟨d_least_k, E_least_k⟩ := c.def_ 38 (d := D_least_k) rfl
  have F_least_k : Fun K _ _ s_least_k _ d_least_k := fun_ofD E_least_k
  have b_least_k : Binds K d_least_k P_least_k [] := F_least_k.binds fun _ _ _ _ _ _ us hl => match us, hl with | [_], _ => rfl
  obtain ⟨d_with_item, E_with_item⟩ := c.def_ 39 (d := D_with_item) rfl
  have F_with_item : Fun K _ _ s_with_item _ d_with_item := fun_ofD E_with_item
  have b_with_item : Binds K d_with_item P_with_item [] := F_with_item.binds fun _ _ _ _ _ _ us hl => match us, hl with | [_, _], _ => rfl
  obtain ⟨d_exchanged, E_exchanged⟩ := c.def_ 40 (d := D_exchanged) rfl
  have F_exchanged : Fun K _ _ s_exchanged _ d_exchanged := fun_ofD E_exchanged
  have b_exchanged : Binds K d_exchanged P_exchanged [] := F_exchanged.binds fun _ _ _ _ _ _ us hl => match us, hl with | [_, _, _], _ => rfl
  obtain ⟨d_Shop_init, E_Shop_init⟩ := c.def_ 41 (d := D_Shop_init) rfl
  have F_Shop_init : Fun K _ _ s_Shop_init _ d_Shop_init := fun_ofD E_Shop_init
  have b_Shop_init : Binds K d_Shop_init P_Shop_init [] := F_Shop_init.binds fun _ _ _ _ _ _ us hl => match us, hl with | [_, _], _ => rfl
  obtain ⟨d_Shop_check_standing, E_Shop_check_standing⟩ := c.def_ 42 (d := D_Shop_check_standing) rfl
  have F_Shop_check_standing : Fun K _ _ s_Shop_check_standing _ d_Shop_check_standing := fun_ofD E_Shop_check_standing
  have b_Shop_check_standing : Binds K d_Shop_check_standing P_Shop_check_standing [] := F_Shop_check_standing.binds fun _ _ _ _ _ _ us hl => match us, hl with | [_, _], _ => rfl
  obtain ⟨d_Shop_check_mark, E_Shop_check_mark⟩ := c.def_ 43 (d := D_Shop_check_mark) rfl
  have F_Shop_check_mark : Fun K _ _ s_Shop_check_mark _ d_Shop_check_mark := fun_ofD E_Shop_check_mark
  have b_Shop_check_mark : Binds K d_Shop_check_mark P_Shop_check_mark [] := F_Shop_check_mark.binds fun _ _ _ _ _ _ us hl => match us, hl with | [_, _], _ => rfl
  obtain ⟨d_Shop_change, E_Shop_change⟩ := c.def_ 44 (d := D_Shop_change) rfl
  have F_Shop_change : Fun K _ _ s_Shop_change _ d_Shop_change := fun_ofD E_Shop_change
  have b_Shop_change : Binds K d_Shop_change P_Shop_change [] := F_Shop_change.binds fun _ _ _ _ _ _ us hl => match us, hl with | [_, _, _], _ => rfl
  obtain ⟨d_Shop_put, E_Shop_put⟩ := c.def_ 45 (d := D_Shop_put) rfl
  have F_Shop_put : Fun K _ _ s_Shop_put _ d_Shop_put := fun_ofD E_Shop_put
  have b_Shop_put : Binds K d_Shop_put P_Shop_put [] := F_Shop_put.binds fun _ _ _ _ _ _ us hl => match us, hl with | [_, _, _, _, _, _], _ => rfl
  obtain ⟨d_Shop_strike, E_Shop_strike⟩ := c.def_ 46 (d := D_Shop_strike) rfl
  have F_Shop_strike : Fun K _ _ s_Shop_strike _ d_Shop_strike := fun_ofD E_Shop_strike
  have b_Shop_strike : Binds K d_Shop_strike P_Shop_strike [] := F_Shop_strike.binds fun _ _ _ _ _ _ us hl => match us, hl with | [_, _, _], _ => rfl
  obtain ⟨d_Shop_add, E_Shop_add⟩ := c.def_ 47 (d := D_Shop_add) rfl
  have F_Shop_add : Fun K _ _ s_Shop_add _ d_Shop_add := fun_ofD E_Shop_add
  have b_Shop_add : Binds K d_Shop_add P_Shop_add [] := F_Shop_add.binds fun _ _ _ _ _ _ us hl => match us, hl with | [_], _ => rfl
  obtain ⟨d_Shop_shuts, E_Shop_shuts⟩ := c.def_ 48 (d := D_Shop_shuts) rfl
  have F_Shop_shuts : Fun K _ _ s_Shop_shuts _ d_Shop_shuts := fun_ofD E_Shop_shuts
  have b_Shop_shuts : Binds K d_Shop_shuts P_Shop_shuts [] := F_Shop_shuts.binds fun _ _ _ _ _ _ us hl => match us, hl with | [_, _, _], _ => rfl
  obtain ⟨d_Shop_shuts_not, E_Shop_shuts_not⟩ := c.def_ 49 (d := D_Shop_shuts_not) rfl
  have F_Shop_shuts_not : Fun K _ _ s_Shop_shuts_not _ d_Shop_shuts_not := fun_ofD E_Shop_shuts_not
  have b_Shop_shuts_not : Binds K d_Shop_shuts_not P_Shop_shuts_not [] := F_Shop_shuts_not.binds fun _ _ _ _ _ _ us hl => match us, hl with | [_, _, _], _ => rfl
  obtain ⟨d_Shop_office, E_Shop_office⟩ := c.def_ 50 (d := D_Shop_office) rfl
  have F_Shop_office : Fun K _ _ s_Shop_office _ d_Shop_office := fun_ofD E_Shop_office
  have b_Shop_office : Binds K d_Shop_office P_Shop_office [] := F_Shop_office.binds fun _ _ _ _ _ _ us hl => match us, hl with | [_], _ => rfl
  obtain ⟨d_Shop_least, E_Shop_least⟩ := c.def_ 51 (d := D_Shop_least) rfl
  have F_Shop_least : Fun K _ _ s_Shop_least _ d_Shop_least := fun_ofD E_Shop_least
  have b_Shop_least : Binds K d_Shop_least P_Shop_least [] := F_Shop_least.binds fun _ _ _ _ _ _ us hl => match us, hl with | [_], _ => rfl
  obtain ⟨d_Shop_depth, E_Shop_depth⟩ := c.def_ 52 (d := D_Shop_depth) rfl
  have F_Shop_depth : Fun K _ _ s_Shop_depth _ d_Shop_depth := fun_ofD E_Shop_depth
  have b_Shop_depth : Binds K d_Shop_depth P_Shop_depth [] := F_Shop_depth.binds fun _ _ _ _ _ _ us hl => match us, hl with | [_], _ => rfl
  obtain ⟨d_l_hand, E_l_hand⟩ := c.def_ 53 (d := D_l_hand) rfl
  have F_l_hand : Fun K _ _ s_l_hand _ d_l_hand := fun_ofD E_l_hand
  have b_l_hand : Binds K d_l_hand P_l_hand [] := F_l_hand.binds fun _ _ _ _ _ _ us hl => match us, hl with | [_], _ => rfl
  obtain ⟨d_l_draw, E_l_draw⟩ := c.def_ 54 (d := D_l_draw) rfl
  have F_l_draw : Fun K _ _ s_l_draw _ d_l_draw := fun_ofD E_l_draw
  have b_l_draw : Binds K d_l_draw P_l_draw [] := F_l_draw.binds fun _ _ _ _ _ _ us hl => match us, hl with | [_, _], _ => rfl
  obtain ⟨d_l_sizes, E_l_sizes⟩ := c.def_ 55 (d := D_l_sizes) rfl
  have F_l_sizes : Fun K _ _ s_l_sizes _ d_l_sizes := fun_ofD E_l_sizes
  have b_l_sizes : Binds K d_l_sizes P_l_sizes [] := F_l_sizes.binds fun _ _ _ _ _ _ us hl => match us, hl with | [_, _], _ => rfl
  obtain ⟨d_l_moves, E_l_moves⟩ := c.def_ 56 (d := D_l_moves) rfl
  have F_l_moves : Fun K _ _ s_l_moves _ d_l_moves := fun_ofD E_l_moves
  have b_l_moves : Binds K d_l_moves P_l_moves [] := F_l_moves.binds fun _ _ _ _ _ _ us hl => match us, hl with | [_, _, _], _ => rfl
  obtain ⟨d_l_closings, E_l_closings⟩ := c.def_ 57 (d := D_l_closings) rfl
  have F_l_closings : Fun K _ _ s_l_closings _ d_l_closings := fun_ofD E_l_closings
  have b_l_closings : Binds K d_l_closings P_l_closings [] := F_l_closings.binds fun _ _ _ _ _ _ us hl => match us, hl with | [_, _, _], _ => rfl
  obtain ⟨d_l_office, E_l_office⟩ := c.def_ 58 (d := D_l_office) rfl
  have F_l_office : Fun K _ _ s_l_office _ d_l_office := fun_ofD E_l_office
  have b_l_office : Binds K d_l_office P_l_office [] := F_l_office.binds fun _ _ _ _ _ _ us hl => match us, hl with | [_, _, _], _ => rfl
  obtain ⟨d_l_move, E_l_move⟩ := c.def_ 59 (d := D_l_move) rfl
  have F_l_move : Fun K _ _ s_l_move _ d_l_move := fun_ofD E_l_move
  have b_l_move : Binds K d_l_move P_l_move [] := F_l_move.binds fun _ _ _ _ _ _ us hl => match us, hl with | [_, _, _], _ => rfl
  obtain ⟨d_l_changed, E_l_changed⟩ := c.def_ 60 (d := D_l_changed) rfl
  have F_l_changed : Fun K _ _ s_l_changed _ d_l_changed := fun_ofD E_l_changed
  have b_l_changed : Binds K d_l_changed P_l_changed [] := F_l_changed.binds fun _ _ _ _ _ _ us hl => match us, hl with | [_, _, _, _, _], _ => rfl
  obtain ⟨d_l_same, E_l_same⟩ := c.def_ 61 (d := D_l_same) rfl
  have F_l_same : Fun K _ _ s_l_same _ d_l_same := fun_ofD E_l_same
  have b_l_same : Binds K d_l_same P_l_same [] := F_l_same.binds fun _ _ _ _ _ _ us hl => match us, hl with | [_, _, _, _], _ => rfl
  obtain ⟨d_law, E_law⟩ := c.def_ 62 (d := D_law) rfl
  have F_law : Fun K _ _ s_law _ d_law := fun_ofD E_law
  have b_law : Binds K d_law P_law [] := F_law.binds fun _ _ _ _ _ _ us hl => match us, hl with | [_], _ => rfl
  obtain ⟨t_MOST_SIZE, g_MOST_SIZE⟩ := He.int_ok X G (c.fact 53 (f := .int "MOST_SIZE" (4)) rfl)
  obtain ⟨t_MOST_STANDINGS, g_MOST_STANDINGS⟩ := He.int_ok X G (c.fact 54 (f := .int "MOST_STANDINGS" (20)) rfl)
  obtain ⟨t_MOST_SETS, g_MOST_SETS⟩ := He.int_ok X G (c.fact 55 (f := .int "MOST_SETS" (60)) rfl)
  obtain ⟨t_DEAD, g_DEAD⟩ := He.int_ok X G (c.fact 56 (f := .int "DEAD" (-1)) rfl)
  exact ⟨{
    a_is_integer := _, d_is_integer := d_is_integer, F_is_integer := F_is_integer, b_is_integer := b_is_integer,
    a_is_within := _, d_is_within := d_is_within, F_is_within := F_is_within, b_is_within := b_is_within,
    a_is_pair := _, d_is_pair := d_is_pair, F_is_pair := F_is_pair, b_is_pair := b_is_pair,
    a_is_triple := _, d_is_triple := d_is_triple, F_is_triple := F_is_triple, b_is_triple := b_is_triple,
    a_are_ascending := _, d_are_ascending := d_are_ascending, F_are_ascending := F_are_ascending, b_are_ascending := b_are_ascending,
    a_are_sizes := _, d_are_sizes := d_are_sizes, F_are_sizes := F_are_sizes, b_are_sizes := b_are_sizes,
    a_is_move := _, d_is_move := d_is_move, F_is_move := F_is_move, b_is_move := b_is_move,
    a_are_moves := _, d_are_moves := d_are_moves, F_are_moves := F_are_moves, b_are_moves := b_are_moves,
    a_are_closings := _, d_are_closings := d_are_closings, F_are_closings := F_are_closings, b_are_closings := b_are_closings,
    a_Office_init := _, d_Office_init := d_Office_init, F_Office_init := F_Office_init, b_Office_init := b_Office_init,
    a_Office_keep := _, d_Office_keep := d_Office_keep, F_Office_keep := F_Office_keep, b_Office_keep := b_Office_keep,
    a_Office_eq := _, d_Office_eq := d_Office_eq, F_Office_eq := F_Office_eq, b_Office_eq := b_Office_eq,
    a_is_mark := _, d_is_mark := d_is_mark, F_is_mark := F_is_mark, b_is_mark := b_is_mark,
    a_is_note := _, d_is_note := d_is_note, F_is_note := F_is_note, b_is_note := b_is_note,
    a_is_step := _, d_is_step := d_is_step, F_is_step := F_is_step, b_is_step := b_is_step,
    a_goals_of := _, d_goals_of := d_goals_of, F_goals_of := F_goals_of, b_goals_of := b_goals_of,
    a_all_steps := _, d_all_steps := d_all_steps, F_all_steps := F_all_steps, b_all_steps := b_all_steps,
    a_Reader_init := _, d_Reader_init := d_Reader_init, F_Reader_init := F_Reader_init, b_Reader_init := b_Reader_init,
    a_Reader_behind := _, d_Reader_behind := d_Reader_behind, F_Reader_behind := F_Reader_behind, b_Reader_behind := b_Reader_behind,
    a_lasts_of := _, d_lasts_of := d_lasts_of, F_lasts_of := F_lasts_of, b_lasts_of := b_lasts_of,
    a_sorted_by_marks := _, d_sorted_by_marks := d_sorted_by_marks, F_sorted_by_marks := F_sorted_by_marks, b_sorted_by_marks := b_sorted_by_marks,
    a_Twins_init := _, d_Twins_init := d_Twins_init, F_Twins_init := F_Twins_init, b_Twins_init := b_Twins_init,
    a_Twins_goal := _, d_Twins_goal := d_Twins_goal, F_Twins_goal := F_Twins_goal, b_Twins_goal := b_Twins_goal,
    a_Twins_lasts := _, d_Twins_lasts := d_Twins_lasts, F_Twins_lasts := F_Twins_lasts, b_Twins_lasts := b_Twins_lasts,
    a_Twins_like_marks := _, d_Twins_like_marks := d_Twins_like_marks, F_Twins_like_marks := F_Twins_like_marks, b_Twins_like_marks := b_Twins_like_marks,
    a_Twins_like_steps := _, d_Twins_like_steps := d_Twins_like_steps, F_Twins_like_steps := F_Twins_like_steps, b_Twins_like_steps := b_Twins_like_steps,
    a_first_level := _, d_first_level := d_first_level, F_first_level := F_first_level, b_first_level := b_first_level,
    a_next_level := _, d_next_level := d_next_level, F_next_level := F_next_level, b_next_level := b_next_level,
    a_are_alike := _, d_are_alike := d_are_alike, F_are_alike := F_are_alike, b_are_alike := b_are_alike,
    a_begin_triple := _, d_begin_triple := d_begin_triple, F_begin_triple := F_begin_triple, b_begin_triple := b_begin_triple,
    a_ways_on := _, d_ways_on := d_ways_on, F_ways_on := F_ways_on, b_ways_on := b_ways_on,
    a_goals_on := _, d_goals_on := d_goals_on, F_goals_on := F_goals_on, b_goals_on := b_goals_on,
    a_lasts_against := _, d_lasts_against := d_lasts_against, F_lasts_against := F_lasts_against, b_lasts_against := b_lasts_against,
    a_all_triples := _, d_all_triples := d_all_triples, F_all_triples := F_all_triples, b_all_triples := b_all_triples,
    a_elders_of := _, d_elders_of := d_elders_of, F_elders_of := F_elders_of, b_elders_of := b_elders_of,
    a_bad_pairs := _, d_bad_pairs := d_bad_pairs, F_bad_pairs := F_bad_pairs, b_bad_pairs := b_bad_pairs,
    a_bad_of := _, d_bad_of := d_bad_of, F_bad_of := F_bad_of, b_bad_of := b_bad_of,
    a_still_level := _, d_still_level := d_still_level, F_still_level := F_still_level, b_still_level := b_still_level,
    a_least_k := _, d_least_k := d_least_k, F_least_k := F_least_k, b_least_k := b_least_k,
    a_with_item := _, d_with_item := d_with_item, F_with_item := F_with_item, b_with_item := b_with_item,
    a_exchanged := _, d_exchanged := d_exchanged, F_exchanged := F_exchanged, b_exchanged := b_exchanged,
    a_Shop_init := _, d_Shop_init := d_Shop_init, F_Shop_init := F_Shop_init, b_Shop_init := b_Shop_init,
    a_Shop_check_standing := _, d_Shop_check_standing := d_Shop_check_standing, F_Shop_check_standing := F_Shop_check_standing, b_Shop_check_standing := b_Shop_check_standing,
    a_Shop_check_mark := _, d_Shop_check_mark := d_Shop_check_mark, F_Shop_check_mark := F_Shop_check_mark, b_Shop_check_mark := b_Shop_check_mark,
    a_Shop_change := _, d_Shop_change := d_Shop_change, F_Shop_change := F_Shop_change, b_Shop_change := b_Shop_change,
    a_Shop_put := _, d_Shop_put := d_Shop_put, F_Shop_put := F_Shop_put, b_Shop_put := b_Shop_put,
    a_Shop_strike := _, d_Shop_strike := d_Shop_strike, F_Shop_strike := F_Shop_strike, b_Shop_strike := b_Shop_strike,
    a_Shop_add := _, d_Shop_add := d_Shop_add, F_Shop_add := F_Shop_add, b_Shop_add := b_Shop_add,
    a_Shop_shuts := _, d_Shop_shuts := d_Shop_shuts, F_Shop_shuts := F_Shop_shuts, b_Shop_shuts := b_Shop_shuts,
    a_Shop_shuts_not := _, d_Shop_shuts_not := d_Shop_shuts_not, F_Shop_shuts_not := F_Shop_shuts_not, b_Shop_shuts_not := b_Shop_shuts_not,
    a_Shop_office := _, d_Shop_office := d_Shop_office, F_Shop_office := F_Shop_office, b_Shop_office := b_Shop_office,
    a_Shop_least := _, d_Shop_least := d_Shop_least, F_Shop_least := F_Shop_least, b_Shop_least := b_Shop_least,
    a_Shop_depth := _, d_Shop_depth := d_Shop_depth, F_Shop_depth := F_Shop_depth, b_Shop_depth := b_Shop_depth,
    a_l_hand := _, d_l_hand := d_l_hand, F_l_hand := F_l_hand, b_l_hand := b_l_hand,
    a_l_draw := _, d_l_draw := d_l_draw, F_l_draw := F_l_draw, b_l_draw := b_l_draw,
    a_l_sizes := _, d_l_sizes := d_l_sizes, F_l_sizes := F_l_sizes, b_l_sizes := b_l_sizes,
    a_l_moves := _, d_l_moves := d_l_moves, F_l_moves := F_l_moves, b_l_moves := b_l_moves,
    a_l_closings := _, d_l_closings := d_l_closings, F_l_closings := F_l_closings, b_l_closings := b_l_closings,
    a_l_office := _, d_l_office := d_l_office, F_l_office := F_l_office, b_l_office := b_l_office,
    a_l_move := _, d_l_move := d_l_move, F_l_move := F_l_move, b_l_move := b_l_move,
    a_l_changed := _, d_l_changed := d_l_changed, F_l_changed := F_l_changed, b_l_changed := b_l_changed,
    a_l_same := _, d_l_same := d_l_same, F_l_same := F_l_same, b_l_same := b_l_same,
    a_law := _, d_law := d_law, F_law := F_law, b_law := b_law,
    t_MOST_SIZE := t_MOST_SIZE, g_MOST_SIZE := g_MOST_SIZE,
    t_MOST_STANDINGS := t_MOST_STANDINGS, g_MOST_STANDINGS := g_MOST_STANDINGS,
    t_MOST_SETS := t_MOST_SETS, g_MOST_SETS := g_MOST_SETS,
    t_DEAD := t_DEAD, g_DEAD := g_DEAD,
    a_Office := _,
    a_Reader := _,
    a_Twins := _,
    a_Shop := _,
    g_is_integer := He.glo_ok X G (c.fact 0 (f := .glo "is_integer") rfl),
    k_is_integer := F_is_integer.kp,
    g_is_within := He.glo_ok X G (c.fact 1 (f := .glo "is_within") rfl),
    k_is_within := F_is_within.kp,
    g_is_pair := He.glo_ok X G (c.fact 2 (f := .glo "is_pair") rfl),
    k_is_pair := F_is_pair.kp,
    g_is_triple := He.glo_ok X G (c.fact 3 (f := .glo "is_triple") rfl),
    k_is_triple := F_is_triple.kp,
    g_are_ascending := He.glo_ok X G (c.fact 4 (f := .glo "are_ascending") rfl),
    k_are_ascending := F_are_ascending.kp,
    g_are_sizes := He.glo_ok X G (c.fact 5 (f := .glo "are_sizes") rfl),
    k_are_sizes := F_are_sizes.kp,
    g_is_move := He.glo_ok X G (c.fact 6 (f := .glo "is_move") rfl),
    k_is_move := F_is_move.kp,
    g_are_moves := He.glo_ok X G (c.fact 7 (f := .glo "are_moves") rfl),
    k_are_moves := F_are_moves.kp,
    g_are_closings := He.glo_ok X G (c.fact 8 (f := .glo "are_closings") rfl),
    k_are_closings := F_are_closings.kp,
    g_is_mark := He.glo_ok X G (c.fact 9 (f := .glo "is_mark") rfl),
    k_is_mark := F_is_mark.kp,
    g_is_note := He.glo_ok X G (c.fact 10 (f := .glo "is_note") rfl),
    k_is_note := F_is_note.kp,
    g_is_step := He.glo_ok X G (c.fact 11 (f := .glo "is_step") rfl),
    k_is_step := F_is_step.kp,
    g_goals_of := He.glo_ok X G (c.fact 12 (f := .glo "goals_of") rfl),
    k_goals_of := F_goals_of.kp,
    g_all_steps := He.glo_ok X G (c.fact 13 (f := .glo "all_steps") rfl),
    k_all_steps := F_all_steps.kp,
    g_lasts_of := He.glo_ok X G (c.fact 14 (f := .glo "lasts_of") rfl),
    k_lasts_of := F_lasts_of.kp,
    g_sorted_by_marks := He.glo_ok X G (c.fact 15 (f := .glo "sorted_by_marks") rfl),
    k_sorted_by_marks := F_sorted_by_marks.kp,
    g_first_level := He.glo_ok X G (c.fact 16 (f := .glo "first_level") rfl),
    k_first_level := F_first_level.kp,
    g_next_level := He.glo_ok X G (c.fact 17 (f := .glo "next_level") rfl),
    k_next_level := F_next_level.kp,
    g_are_alike := He.glo_ok X G (c.fact 18 (f := .glo "are_alike") rfl),
    k_are_alike := F_are_alike.kp,
    g_begin_triple := He.glo_ok X G (c.fact 19 (f := .glo "begin_triple") rfl),
    k_begin_triple := F_begin_triple.kp,
    g_ways_on := He.glo_ok X G (c.fact 20 (f := .glo "ways_on") rfl),
    k_ways_on := F_ways_on.kp,
    g_goals_on := He.glo_ok X G (c.fact 21 (f := .glo "goals_on") rfl),
    k_goals_on := F_goals_on.kp,
    g_lasts_against := He.glo_ok X G (c.fact 22 (f := .glo "lasts_against") rfl),
    k_lasts_against := F_lasts_against.kp,
    g_all_triples := He.glo_ok X G (c.fact 23 (f := .glo "all_triples") rfl),
    k_all_triples := F_all_triples.kp,
    g_elders_of := He.glo_ok X G (c.fact 24 (f := .glo "elders_of") rfl),
    k_elders_of := F_elders_of.kp,
    g_bad_pairs := He.glo_ok X G (c.fact 25 (f := .glo "bad_pairs") rfl),
    k_bad_pairs := F_bad_pairs.kp,
    g_bad_of := He.glo_ok X G (c.fact 26 (f := .glo "bad_of") rfl),
    k_bad_of := F_bad_of.kp,
    g_still_level := He.glo_ok X G (c.fact 27 (f := .glo "still_level") rfl),
    k_still_level := F_still_level.kp,
    g_least_k := He.glo_ok X G (c.fact 28 (f := .glo "least_k") rfl),
    k_least_k := F_least_k.kp,
    g_with_item := He.glo_ok X G (c.fact 29 (f := .glo "with_item") rfl),
    k_with_item := F_with_item.kp,
    g_exchanged := He.glo_ok X G (c.fact 30 (f := .glo "exchanged") rfl),
    k_exchanged := F_exchanged.kp,
    g_l_hand := He.glo_ok X G (c.fact 31 (f := .glo "_law_hand") rfl),
    k_l_hand := F_l_hand.kp,
    g_l_draw := He.glo_ok X G (c.fact 32 (f := .glo "_law_draw") rfl),
    k_l_draw := F_l_draw.kp,
    g_l_sizes := He.glo_ok X G (c.fact 33 (f := .glo "_law_sizes") rfl),
    k_l_sizes := F_l_sizes.kp,
    g_l_moves := He.glo_ok X G (c.fact 34 (f := .glo "_law_moves") rfl),
    k_l_moves := F_l_moves.kp,
    g_l_closings := He.glo_ok X G (c.fact 35 (f := .glo "_law_closings") rfl),
    k_l_closings := F_l_closings.kp,
    g_l_office := He.glo_ok X G (c.fact 36 (f := .glo "_law_office") rfl),
    k_l_office := F_l_office.kp,
    g_l_move := He.glo_ok X G (c.fact 37 (f := .glo "_law_move") rfl),
    k_l_move := F_l_move.kp,
    g_l_changed := He.glo_ok X G (c.fact 38 (f := .glo "_law_changed") rfl),
    k_l_changed := F_l_changed.kp,
    g_l_same := He.glo_ok X G (c.fact 39 (f := .glo "_law_same") rfl),
    k_l_same := F_l_same.kp,
    g_law := He.glo_ok X G (c.fact 40 (f := .glo "law") rfl),
    k_law := F_law.kp,
    n_abs := He.free_ok X G (c.fact 41 (f := .free "abs") rfl),
    n_all := He.free_ok X G (c.fact 42 (f := .free "all") rfl),
    n_bool := He.free_ok X G (c.fact 43 (f := .free "bool") rfl),
    n_int := He.free_ok X G (c.fact 44 (f := .free "int") rfl),
    n_isinstance := He.free_ok X G (c.fact 45 (f := .free "isinstance") rfl),
    n_len := He.free_ok X G (c.fact 46 (f := .free "len") rfl),
    n_list := He.free_ok X G (c.fact 47 (f := .free "list") rfl),
    n_range := He.free_ok X G (c.fact 48 (f := .free "range") rfl),
    n_repr := He.free_ok X G (c.fact 49 (f := .free "repr") rfl),
    n_sorted := He.free_ok X G (c.fact 50 (f := .free "sorted") rfl),
    n_tuple := He.free_ok X G (c.fact 51 (f := .free "tuple") rfl),
    n_zip := He.free_ok X G (c.fact 52 (f := .free "zip") rfl),
    g_Office := He.glo_ok X G (c.fact 57 (f := .glo "Office") rfl),
    c_Office := He.cls_ok (c.fact 58 (f := .cls "Office") rfl),
    e_Office := rfl,
    m_Office := He.mkr_ok (c.fact 59 (f := .mkr "Office") rfl),
    f_Office_sizes := He.noat_ok (c.fact 60 (f := .noat "Office" "sizes") rfl),
    f_Office_moves := He.noat_ok (c.fact 61 (f := .noat "Office" "moves") rfl),
    f_Office_closings := He.noat_ok (c.fact 62 (f := .noat "Office" "closings") rfl),
    f_Office_kept_goals := He.noat_ok (c.fact 63 (f := .noat "Office" "kept_goals") rfl),
    t_Office_keep := He.meth_ok (c.fact 64 (f := .meth "Office" "keep") rfl),
    t_Office___eq__ := He.meth_ok (c.fact 65 (f := .meth "Office" "__eq__") rfl),
    g_Reader := He.glo_ok X G (c.fact 66 (f := .glo "Reader") rfl),
    c_Reader := He.cls_ok (c.fact 67 (f := .cls "Reader") rfl),
    m_Reader := He.mkr_ok (c.fact 68 (f := .mkr "Reader") rfl),
    f_Reader_table := He.noat_ok (c.fact 69 (f := .noat "Reader" "table") rfl),
    f_Reader_shut := He.noat_ok (c.fact 70 (f := .noat "Reader" "shut") rfl),
    f_Reader_kept_sets := He.noat_ok (c.fact 71 (f := .noat "Reader" "kept_sets") rfl),
    t_Reader_behind := He.meth_ok (c.fact 72 (f := .meth "Reader" "behind") rfl),
    g_Twins := He.glo_ok X G (c.fact 73 (f := .glo "Twins") rfl),
    c_Twins := He.cls_ok (c.fact 74 (f := .cls "Twins") rfl),
    m_Twins := He.mkr_ok (c.fact 75 (f := .mkr "Twins") rfl),
    f_Twins_kept_reader := He.noat_ok (c.fact 76 (f := .noat "Twins" "kept_reader") rfl),
    f_Twins_by_mark := He.noat_ok (c.fact 77 (f := .noat "Twins" "by_mark") rfl),
    t_Twins_goal := He.meth_ok (c.fact 78 (f := .meth "Twins" "goal") rfl),
    t_Twins_lasts := He.meth_ok (c.fact 79 (f := .meth "Twins" "lasts") rfl),
    t_Twins_like_marks := He.meth_ok (c.fact 80 (f := .meth "Twins" "like_marks") rfl),
    t_Twins_like_steps := He.meth_ok (c.fact 81 (f := .meth "Twins" "like_steps") rfl),
    g_Shop := He.glo_ok X G (c.fact 82 (f := .glo "Shop") rfl),
    c_Shop := He.cls_ok (c.fact 83 (f := .cls "Shop") rfl),
    m_Shop := He.mkr_ok (c.fact 84 (f := .mkr "Shop") rfl),
    f_Shop_kept_now := He.noat_ok (c.fact 85 (f := .noat "Shop" "kept_now") rfl),
    f_Shop_kept_past := He.noat_ok (c.fact 86 (f := .noat "Shop" "kept_past") rfl),
    t_Shop_check_standing := He.meth_ok (c.fact 87 (f := .meth "Shop" "check_standing") rfl),
    t_Shop_check_mark := He.meth_ok (c.fact 88 (f := .meth "Shop" "check_mark") rfl),
    t_Shop_change := He.meth_ok (c.fact 89 (f := .meth "Shop" "change") rfl),
    t_Shop_put := He.meth_ok (c.fact 90 (f := .meth "Shop" "put") rfl),
    t_Shop_strike := He.meth_ok (c.fact 91 (f := .meth "Shop" "strike") rfl),
    t_Shop_add := He.meth_ok (c.fact 92 (f := .meth "Shop" "add") rfl),
    t_Shop_shuts := He.meth_ok (c.fact 93 (f := .meth "Shop" "shuts") rfl),
    t_Shop_shuts_not := He.meth_ok (c.fact 94 (f := .meth "Shop" "shuts_not") rfl),
    t_Shop_office := He.meth_ok (c.fact 95 (f := .meth "Shop" "office") rfl),
    t_Shop_least := He.meth_ok (c.fact 96 (f := .meth "Shop" "least") rfl),
    t_Shop_depth := He.meth_ok (c.fact 97 (f := .meth "Shop" "depth") rfl)
  }, trivial⟩
theorem err_of {K : PySem.W.Frag} {h : Heap} {mg : Str → Option Value} (X : K.In h) (G : h.Ns mainGlobals mg) (c : SaysX faL fnL sdL xsL K) : ∃ Er : Err PySem.Challenge.pw_falsedays_k89_whole_shop_by_own_list K mg, ErrQ Er := by
  obtain ⟨cc_TooMany, ca_TooMany, su_TooMany, fd_TooMany, doc_TooMany, pm_TooMany, ctv_TooMany, efd_TooMany, oc_TooMany, od_TooMany, osl_TooMany, lk_TooMany⟩ := supI_of (P := PySem.Challenge.pw_falsedays_k89_whole_shop_by_own_list) (by decide +kernel) (c.sup 0 (d := D_TooMany) rfl).2 (c.sup 0 (d := D_TooMany) rfl).1
  obtain ⟨cc_BadOffice, ca_BadOffice, su_BadOffice, fd_BadOffice, doc_BadOffice, pm_BadOffice, ctv_BadOffice, efd_BadOffice, oc_BadOffice, od_BadOffice, osl_BadOffice, lk_BadOffice⟩ := supI_of (P := PySem.Challenge.pw_falsedays_k89_whole_shop_by_own_list) (by decide +kernel) (c.sup 1 (d := D_BadOffice) rfl).2 (c.sup 1 (d := D_BadOffice) rfl).1
  refine ⟨{
    a_FalseError := He.ga K "FalseError",
    a_NoStep := He.ga K "NoStep",
    a_NoMark := He.ga K "NoMark",
    a_NoStanding := He.ga K "NoStanding",
    a_NoMove := He.ga K "NoMove",
    a_TooMany := He.ga K "TooMany",
    a_BadOffice := He.ga K "BadOffice",
    a_Office := He.ga K "Office",
    f_TooMany := iAd K "TooMany",
    f_BadOffice := iAd K "BadOffice",
    cc_TooMany := cc_TooMany,
    ca_TooMany := ca_TooMany,
    d_TooMany_init := fd_TooMany,
    cc_BadOffice := cc_BadOffice,
    ca_BadOffice := ca_BadOffice,
    d_BadOffice_init := fd_BadOffice,
    g_FalseError := He.glo_ok X G (c.d.fact 98 (f := .glo "FalseError") rfl),
    g_NoStep := He.glo_ok X G (c.d.fact 99 (f := .glo "NoStep") rfl),
    g_NoMark := He.glo_ok X G (c.d.fact 100 (f := .glo "NoMark") rfl),
    g_NoStanding := He.glo_ok X G (c.d.fact 101 (f := .glo "NoStanding") rfl),
    g_NoMove := He.glo_ok X G (c.d.fact 102 (f := .glo "NoMove") rfl),
    g_TooMany := He.glo_ok X G (c.d.fact 103 (f := .glo "TooMany") rfl),
    g_BadOffice := He.glo_ok X G (c.d.fact 104 (f := .glo "BadOffice") rfl),
    g_Office := He.glo_ok X G (c.d.fact 105 (f := .glo "Office") rfl),
    n_super := He.free_ok X G (c.d.fact 106 (f := .free "super") rfl),
    x_NoStep := (c.fact 0 rfl),
    k_NoStep := (c.fact 1 rfl),
    s_NoStep := (of_decide_eq_true (c.fact 2 rfl)),
    t_NoStep := (of_decide_eq_true (c.fact 3 rfl)),
    x_NoMark := (c.fact 4 rfl),
    k_NoMark := (c.fact 5 rfl),
    s_NoMark := (of_decide_eq_true (c.fact 6 rfl)),
    t_NoMark := (of_decide_eq_true (c.fact 7 rfl)),
    x_NoStanding := (c.fact 8 rfl),
    k_NoStanding := (c.fact 9 rfl),
    s_NoStanding := (of_decide_eq_true (c.fact 10 rfl)),
    t_NoStanding := (of_decide_eq_true (c.fact 11 rfl)),
    x_NoMove := (c.fact 12 rfl),
    k_NoMove := (c.fact 13 rfl),
    s_NoMove := (of_decide_eq_true (c.fact 14 rfl)),
    t_NoMove := (of_decide_eq_true (c.fact 15 rfl)),
    u_TooMany := su_TooMany,
    fd_TooMany := ⟨doc_TooMany, pm_TooMany, ctv_TooMany, efd_TooMany, oc_TooMany, od_TooMany, osl_TooMany, lk_TooMany⟩,
    i_TooMany := (of_decide_eq_true (c.fact 16 rfl)),
    t_TooMany := (of_decide_eq_true (c.fact 17 rfl)),
    no_TooMany := (of_decide_eq_true (c.fact 18 rfl)),
    b_TooMany_init := by rw [efd_TooMany]; exact .all fun us hl => match us, hl with | [_, _], _ => rfl,
    u_BadOffice := su_BadOffice,
    fd_BadOffice := ⟨doc_BadOffice, pm_BadOffice, ctv_BadOffice, efd_BadOffice, oc_BadOffice, od_BadOffice, osl_BadOffice, lk_BadOffice⟩,
    i_BadOffice := (of_decide_eq_true (c.fact 19 rfl)),
    t_BadOffice := (of_decide_eq_true (c.fact 20 rfl)),
    no_BadOffice := (of_decide_eq_true (c.fact 21 rfl)),
    b_BadOffice_init := by rw [efd_BadOffice]; exact .all fun us hl => match us, hl with | [_, _], _ => rfl }, ?_⟩
  exact {
    o1 := (of_decide_eq_true (c.fact 22 rfl)),
    o2 := (of_decide_eq_true (c.fact 23 rfl)),
    o3 := (of_decide_eq_true (c.fact 24 rfl)),
    o4 := (of_decide_eq_true (c.fact 25 rfl)),
    o7 := (of_decide_eq_true (c.fact 26 rfl)) }
end Fd
set_option Elab.async false
set_option linter.all false
set_option maxRecDepth 100000
set_option maxHeartbeats 4000000
namespace Fd
open PySem PySem.Spec PyProof.Rows L2
/-! ### for, over items told by data -/
theorem fo_T {K : PySem.W.Frag} {α : Type} {R : V → α → Prop} {a : Addr} {vs : List V} {xs : List α} {g : TG} {tb : TS} {D : Ends} {σ : L2.St} {H : Hp} (Pv : List α → L2.St → Hp → Prop) (hp : Paired R vs xs) (h0 : Pv [] σ H)
    (hk : ∀ d σ H', Pv d σ H' → H' a = some (.tup vs)) (hs : ∀ d x r v σ H', xs = d ++ x :: r → R v x → Pv d σ H' → g v σ H' fun σ2 H2 => tb { D with nx := Pv (d ++ [x]), ct := Pv (d ++ [x]), bk := D.nx } σ2 H2)
    (hd : ∀ σ H', Pv xs σ H' → D.nx σ H') :
    ∃ W : Nat → Nat → L2.St → Hp → Prop, (∃ m, W 0 m σ H) ∧ ∀ i m σ H, W i m σ H →
      ((Itt K a).stop i H ∧ D.nx σ H) ∨ ((Itt K a).go i H ∧ ∃ N : L2.St → Hp → Prop, (∀ σ' H', N σ' H' → ∃ m', m' < m ∧ W (i + 1) m' σ' H') ∧ ∀ x H', (Itt K a).yld i H x H' → g x σ H' fun σ2 H2 => tb { D with nx := N, ct := N, bk := D.nx } σ2 H2) := by
  refine for_tup (xs := vs) (fun i σ H' => Pv (xs.take i) σ H') h0 (fun i σ H' _ p => SqT.of (hk _ _ _ p)) (fun i x σ H' e p => ?_) fun σ H' p => hd σ H' (by rw [plen hp, List.take_length] at p; exact p)
  obtain ⟨y, e2, r⟩ := pgetL hp e
  have hlt : i < xs.length := (List.getElem?_eq_some_iff.mp e2).1
  have e3 : xs[i] = y := (List.getElem?_eq_some_iff.mp e2).2
  have e4 : xs.take (i + 1) = xs.take i ++ [y] := by rw [List.take_succ, e2]; rfl
  have := hs (xs.take i) y (xs.drop (i + 1)) x σ H' (by rw [← e3, List.getElem_cons_drop, List.take_append_drop]) r p
  rw [e4]
  exact this
theorem fo_L {K : PySem.W.Frag} {α : Type} {R : V → α → Prop} {a : Addr} {vs : List V} {xs : List α} {g : TG} {tb : TS} {D : Ends} {σ : L2.St} {H : Hp} (Pv : List α → L2.St → Hp → Prop) (hp : Paired R vs xs) (h0 : Pv [] σ H)
    (hk : ∀ d σ H', Pv d σ H' → H' a = some (.lst vs)) (hs : ∀ d x r v σ H', xs = d ++ x :: r → R v x → Pv d σ H' → g v σ H' fun σ2 H2 => tb { D with nx := Pv (d ++ [x]), ct := Pv (d ++ [x]), bk := D.nx } σ2 H2)
    (hd : ∀ σ H', Pv xs σ H' → D.nx σ H') :
    ∃ W : Nat → Nat → L2.St → Hp → Prop, (∃ m, W 0 m σ H) ∧ ∀ i m σ H, W i m σ H →
      ((Itl K a).stop i H ∧ D.nx σ H) ∨ ((Itl K a).go i H ∧ ∃ N : L2.St → Hp → Prop, (∀ σ' H', N σ' H' → ∃ m', m' < m ∧ W (i + 1) m' σ' H') ∧ ∀ x H', (Itl K a).yld i H x H' → g x σ H' fun σ2 H2 => tb { D with nx := N, ct := N, bk := D.nx } σ2 H2) := by
  refine for_list (xs := vs) (fun i σ H' => Pv (xs.take i) σ H') h0 (fun i σ H' _ p => SqL.of (hk _ _ _ p)) (fun i x σ H' e p => ?_) fun σ H' p => hd σ H' (by rw [plen hp, List.take_length] at p; exact p)
  obtain ⟨y, e2, r⟩ := pgetL hp e
  have hlt : i < xs.length := (List.getElem?_eq_some_iff.mp e2).1
  have e3 : xs[i] = y := (List.getElem?_eq_some_iff.mp e2).2
  have e4 : xs.take (i + 1) = xs.take i ++ [y] := by rw [List.take_succ, e2]; rfl
  have := hs (xs.take i) y (xs.drop (i + 1)) x σ H' (by rw [← e3, List.getElem_cons_drop, List.take_append_drop]) r p
  rw [e4]
  exact this
/-- a comprehension without a test, over the items of a tuple told by data -/
theorem lc_T {K : PySem.W.Frag} {α β : Type} {R : V → α → Prop} {R' : Rl β} (sR' : Stb R') {f : α → β} {a : Addr} {vs : List V} {xs : List α} {g : TG} {te : TE} {ix : List Nat} {σ : L2.St} {H1 : Hp} {D : Addr} {Qd : Hp → Prop}
    (hn : H1 D = none) (hl : vs.length ≤ sizeLine) (hp : Paired R vs xs) (ha : H1 a = some (.tup vs))
    (hs : ∀ v x H, x ∈ xs → R v x → Ke H1 H → ∀ Q : V → Hp → Prop, (∀ w H', Ke H H' → R' H' w (f x) → Q w H') → g v (wipe σ ix) H fun σ2 H2 => wipe σ2 ix = wipe σ ix ∧ te σ2 H2 Q)
    (hd : ∀ H ws, Ke H1 H → H D = some (.lst ws) → Paired (R' H) ws (xs.map f) → Qd H) :
    ∃ W : Nat → Nat → Hp → Prop, (∃ m, W 0 m (upd H1 D (.lst []))) ∧ ∀ i m H, W i m H →
      ((Itt K a).stop i H ∧ Qd H) ∨ ((Itt K a).go i H ∧ ∃ Nx : Hp → Prop, (∀ H', Nx H' → ∃ m', m' < m ∧ W (i + 1) m' H') ∧ ∀ x H', (Itt K a).yld i H x H' → g x (wipe σ ix) H' fun σ2 H2 => wipe σ2 ix = wipe σ ix ∧ tYes σ2 H2 fun b H3 =>
        if b = true then te σ2 H3 fun y H4 => ∃ acc, H4 D = some (.lst acc) ∧ acc.length < sizeLine ∧ Nx (upd H4 D (.lst (acc ++ [y]))) else Nx H3) := by
  have el := plen hp
  refine lc_tup (xs := vs) (fun i H => Ke H1 H ∧ ∃ ws, H D = some (.lst ws) ∧ Paired (R' H) ws ((xs.take i).map f)) ⟨Ke.new hn, [], upd_same, .nil⟩ (fun i H _ p => SqT.of (p.1.at ha)) (fun i v H e p => ?_) fun H p => ?_
  · obtain ⟨k, ws, hD, pw⟩ := p
    obtain ⟨x, e2, r⟩ := pgetL hp e
    have hlt : i < vs.length := (List.getElem?_eq_some_iff.mp e).1
    have hx : x ∈ xs := List.mem_of_getElem? e2
    have e4 : (xs.take (i + 1)).map f = (xs.take i).map f ++ [f x] := by rw [List.take_succ, e2]; simp
    have lw : ws.length = i := by have := plen pw; rw [this]; simp; omega
    refine hs v x H hx r k _ fun w H' k' r' => ?_
    refine ⟨ws, k'.at hD, by omega, ?_⟩
    have kk : ∀ H2, H2 = upd H' D (.lst (ws ++ [w])) → Ke H1 H2 := fun H2 e => by
      rw [e]; exact Ks.mutNew (k.trans k') hn
    refine ⟨kk _ rfl, ws ++ [w], upd_same, ?_⟩
    rw [e4]
    have tx1 : Tx H (upd H' D (.lst (ws ++ [w]))) := ⟨fun b ys e => by rw [upd_ne (fun z => by subst z; rw [hD] at e; cases e)]; exact k'.tup b ys e⟩
    have tx2 : Tx H' (upd H' D (.lst (ws ++ [w]))) := ⟨fun b ys e => by rw [upd_ne (fun z => by subst z; rw [k'.at hD] at e; cases e)]; exact e⟩
    exact papp (pimp (fun v x r => sR' _ _ v x tx1 r) pw) (.cons (sR' _ _ _ _ tx2 r') .nil)
  · rw [el, List.take_length] at p
    obtain ⟨k, ws, hD, pw⟩ := p
    exact hd H ws k hD pw

theorem bT {p : Prop} [Decidable p] (h : p) : V.bl (decide p) = V.bl true := by rw [decide_eq_true h]
theorem bF {p : Prop} [Decidable p] (h : ¬ p) : V.bl (decide p) = V.bl false := by rw [decide_eq_false h]
theorem qT {p : Prop} [Decidable p] {Q : VK} {H : Hp} (h : p) (k : Q (.bl true) H) : Q (.bl (decide p)) H := by rw [decide_eq_true h]; exact k
theorem qF {p : Prop} [Decidable p] {Q : VK} {H : Hp} (h : ¬ p) (k : Q (.bl false) H) : Q (.bl (decide p)) H := by rw [decide_eq_false h]; exact k
theorem ifT {p A B : Prop} [Decidable p] (h : p) (k : A) : if decide p = true then A else B := by rw [decide_eq_true h]; exact iteT k
theorem ifF {p A B : Prop} [Decidable p] (h : ¬ p) (k : B) : if decide p = true then A else B := by rw [decide_eq_false h]; exact iteF k
theorem ifNT {p A B : Prop} [Decidable p] (h : p) (k : B) : if (!decide p) = true then A else B := by rw [decide_eq_true h]; exact iteF k
theorem ifNF {p A B : Prop} [Decidable p] (h : ¬ p) (k : A) : if (!decide p) = true then A else B := by rw [decide_eq_false h]; exact iteT k
theorem atI_nat {α : Type} {xs : List α} {i : Nat} {x : α} (h : xs[i]? = some x) {j : Int} (e : j = i) : atI xs j = some x := by
  subst e
  have hl : i < xs.length := (List.getElem?_eq_some_iff.mp h).1
  unfold atI ixN
  rw [if_pos (by omega), if_pos (by omega)]
  simpa using h
theorem paired_bl {H : Hp} : ∀ {vs : List V} {ns : List Bool}, Paired (BB H) vs ns → vs = ns.map V.bl
  | _, _, .nil => rfl
  | _, _, .cons h t => by
    have h' : _ = V.bl _ := h
    rw [h', paired_bl t]; rfl
/-! ### checks, whatever they are asked -/
/-- whether a thing is an integer -/
def IsI (K : PySem.W.Frag) (H : Hp) (v : V) (b : Bool) : Prop := ∃ t b1 b2, TyX K H v t ∧ PySem.W.kitOne K t (.type "int") = some b1 ∧ PySem.W.kitOne K t (.type "bool") = some b2 ∧ b = (b1 && !b2)
theorem isI_int {K : PySem.W.Frag} {H : Hp} (n : Int) : IsI K H (.int n) true := ⟨.type "int", true, false, .base (.int _), by rfl, by rfl, rfl⟩
def sp_is_integer (K : PySem.W.Frag) : Sp := fun vs H Q _ => ∃ v b, vs = [v] ∧ IsI K H v b ∧ Q (.bl b) H
/-- whether a thing lies within -/
def IsW (K : PySem.W.Frag) (H : Hp) (v : V) (a b : Int) (r : Bool) : Prop := (∃ n, v = .int n ∧ r = decide (a ≤ n ∧ n ≤ b)) ∨ (IsI K H v false ∧ r = false)
theorem isW_int {K : PySem.W.Frag} {H : Hp} {n a b : Int} (h : a ≤ n ∧ n ≤ b) : IsW K H (.int n) a b true := .inl ⟨n, rfl, by rw [decide_eq_true h]⟩
def sp_is_within (K : PySem.W.Frag) : Sp := fun vs H Q _ => ∃ v a b r, vs = [v, .int a, .int b] ∧ IsW K H v a b r ∧ Q (.bl r) H
def sp_is_pair : Sp := fun vs H Q _ => ∃ a xs, vs = [.ref a] ∧ H a = some (.tup xs) ∧ xs.length = 2 ∧ Q (.bl true) H
def sp_is_triple : Sp := fun vs H Q _ => ∃ a xs, vs = [.ref a] ∧ H a = some (.tup xs) ∧ xs.length = 3 ∧ Q (.bl true) H
/-- ascending: ints, or tuples of ints -/
def sp_are_ascending : Sp := fun vs H Q _ => ∃ a xs r, vs = [.ref a] ∧ H a = some (.tup xs) ∧ xs.length < 1000000 ∧ ((∃ ns : List Int, Paired (II H) xs ns ∧ (r = true ↔ ns.Pairwise (· < ·))) ∨ ∃ ns : List (List Int), Paired (TI H) xs ns ∧ (r = true ↔ ns.Pairwise (· < ·))) ∧ Q (.bl r) H
/-- sizes that an office may have -/
def Sizes (sz : List Int) : Prop := sz.length = 3 ∧ ∀ x ∈ sz, 1 ≤ x ∧ x ≤ 4
/-- a move -/
def MoveOk (sz : List Int) (many : Int) (m : List Int) : Prop := ∃ a b c s n k g, sz = [a, b, c] ∧ m = [s, n, k, g] ∧ (0 ≤ s ∧ s ≤ a - 1) ∧ (0 ≤ n ∧ n ≤ b - 1) ∧ (0 ≤ k ∧ k ≤ c - 1) ∧ 0 ≤ g ∧ g ≤ many - 1
def RowOk (sz : List Int) (many : Int) (r : List (List Int)) : Prop := (∀ m ∈ r, MoveOk sz many m) ∧ r.Pairwise (· < ·) ∧ r.length < 1000000
def MovesOk (sz : List Int) (mv : List (List (List Int))) : Prop := 1 ≤ mv.length ∧ mv.length ≤ 20 ∧ ∀ r ∈ mv, RowOk sz mv.length r
def MarkOk (sz : List Int) (k : Int) : Prop := ∃ a b c, sz = [a, b, c] ∧ 0 ≤ k ∧ k ≤ c - 1
def ClosOk (sz : List Int) (many : Int) (cl : List (List Int)) : Prop := (cl.length : Int) = many ∧ ∀ r ∈ cl, (∀ k ∈ r, ∃ a b c, sz = [a, b, c] ∧ 0 ≤ k ∧ k ≤ c - 1) ∧ r.Pairwise (· < ·) ∧ r.length < 1000000
/-- moves right but for their number and their order -/
def MovesSh (sz : List Int) (mv : List (List (List Int))) : Prop := 1 ≤ mv.length ∧ ∀ r ∈ mv, (∀ m ∈ r, MoveOk sz mv.length m) ∧ r.length < 1000000
def ClosSh (sz : List Int) (many : Int) (cl : List (List Int)) : Prop := (cl.length : Int) = many ∧ ∀ r ∈ cl, (∀ k ∈ r, MarkOk sz k) ∧ r.length < 1000000
theorem MovesSh.ok {sz : List Int} {mv : List (List (List Int))} (h : MovesSh sz mv) : (mv.length ≤ 20 ∧ ∀ r ∈ mv, r.Pairwise (· < ·)) ↔ MovesOk sz mv := ⟨fun ⟨a, b⟩ => ⟨h.1, a, fun r hr => ⟨(h.2 r hr).1, b r hr, (h.2 r hr).2⟩⟩, fun ⟨_, a, b⟩ => ⟨a, fun r hr => (b r hr).2.1⟩⟩
theorem ClosSh.ok {sz : List Int} {many : Int} {cl : List (List Int)} (h : ClosSh sz many cl) : (∀ r ∈ cl, r.Pairwise (· < ·)) ↔ ClosOk sz many cl := ⟨fun b => ⟨h.1, fun r hr => ⟨(h.2 r hr).1, b r hr, (h.2 r hr).2⟩⟩, fun ⟨_, b⟩ r hr => (b r hr).2.1⟩
abbrev MV : Rl (List (List (List Int))) := TT (TT TI)
abbrev CL : Rl (List (List Int)) := TT TI
def sp_are_sizes : Sp := fun vs H Q _ => ∃ v sz r, vs = [v] ∧ TI H v sz ∧ sz.length = 3 ∧ (r = true ↔ Sizes sz) ∧ ∀ H', Ke H H' → Q (.bl r) H'
def sp_is_move : Sp := fun vs H Q _ => ∃ u n v sz m, vs = [u, .int n, v] ∧ TI H u sz ∧ TI H v m ∧ MoveOk sz n m ∧ Q (.bl true) H
def sp_are_moves : Sp := fun vs H Q _ => ∃ u v sz mv r, vs = [u, v] ∧ TI H u sz ∧ MV H v mv ∧ MovesSh sz mv ∧ mv.length < 1000000 ∧ (r = true ↔ MovesOk sz mv) ∧ ∀ H', Ke H H' → Q (.bl r) H'
def sp_are_closings : Sp := fun vs H Q _ => ∃ u n v sz cl r, vs = [u, .int n, v] ∧ TI H u sz ∧ CL H v cl ∧ sz.length = 3 ∧ ClosSh sz n cl ∧ (r = true ↔ ClosOk sz n cl) ∧ ∀ H', Ke H H' → Q (.bl r) H'
theorem adj_pw {α : Type} [LT α] (tr : ∀ a b c : α, a < b → b < c → a < c) {l : List α} (h : ∀ i (_ : i + 1 < l.length), l[i] < l[i + 1]) : l.Pairwise (· < ·) := by
  rw [List.pairwise_iff_getElem]
  intro i j hi hj hij
  obtain ⟨d, rfl⟩ : ∃ d, j = i + 1 + d := ⟨j - (i + 1), by omega⟩
  induction d with
  | zero => exact h i hj
  | succ d ih => exact tr _ _ _ (ih (by omega) (by omega)) (h (i + 1 + d) hj)
theorem b_of {r : Bool} {p : Prop} (h : r = true ↔ p) (c : p) : r = true := h.mpr c
theorem b_not {r : Bool} {p : Prop} (h : r = true ↔ p) (c : ¬ p) : r = false := by
  cases r with
  | true => exact absurd (h.mp rfl) c
  | false => rfl
section
variable {P : Program} {w : World} {K : PySem.W.Frag} {mg : Str → Option Value} {base : Heap} (T : Txt K mg)
include T
theorem ok_is_integer : FnOk P w K mg base CX0 1 T.a_is_integer T.d_is_integer P_is_integer (sp_is_integer K) := by
  refine T.F_is_integer.ok sc_is_integer (fun vs H Q E h => ?_) (fun cdv A outer s H vs Q E hr h => ?_)
  · obtain ⟨v, b, rfl, _⟩ := h; rfl
  · obtain ⟨v, b, rfl, ⟨t, b1, b2, ty, h1, h2, rfl⟩, k⟩ := h
    refine ⟨_, (pss_one (ps_ret (pe_and (pe_callB call_isi (by rfl) T.n_isinstance (by decide +kernel) (pa_cons (pv 0) (pa_cons (pe_bltn (v := .ty "int") (by rfl) T.n_int (by decide +kernel) rfl) pa_nil))) (pe_one (pe_not (pe_callB call_isi (by rfl) T.n_isinstance (by decide +kernel) (pa_cons (pv 0) (pa_cons (pe_bltn (v := .ty "bool") (by rfl) T.n_bool (by decide +kernel) rfl) pa_nil)))))))), ?_⟩
    refine ⟨_, rfl, v, .ty "int", t, .type "int", b1, rfl, .ty _, ty, h1, b1, rfl, ?_⟩
    cases b1 with
    | false => exact iteF k
    | true => exact iteT ⟨_, rfl, v, .ty "bool", t, .type "bool", b2, rfl, .ty _, ty, h2, b2, rfl, k⟩
theorem ok_is_within : FnOk P w K mg base CX0 2 T.a_is_within T.d_is_within P_is_within (sp_is_within K) := by
  refine T.F_is_within.ok sc_is_within (fun vs H Q E h => ?_) (fun cdv A outer s H vs Q E hr h => ?_)
  · obtain ⟨v, a, b, r, rfl, _⟩ := h; rfl
  · obtain ⟨v, a, b, r, rfl, c, k⟩ := h
    refine ⟨_, (pss_one (ps_ret (pe_and (pe_call (ok_is_integer T) (hr.mono (by decide)) rfl T.g_is_integer T.k_is_integer T.b_is_integer .nil pass0 (pa_cons (pv 0) pa_nil)) (pe_one (pe_chain op_le op_le (pv 1) (pv 0) (pv 2)))))), ?_⟩
    rcases c with ⟨n, rfl, rfl⟩ | ⟨c, rfl⟩
    · refine ⟨_, rfl, _, true, rfl, isI_int n, true, rfl, iteT ⟨_, rfl, _, rfl, _, _, rfl, rfl, _, rfl, ?_⟩⟩
      by_cases c1 : a ≤ n
      · refine ifT c1 ⟨_, rfl, _, _, rfl, rfl, ?_⟩
        have e : decide (a ≤ n ∧ n ≤ b) = decide (n ≤ b) := by simp [c1]
        rw [e] at k
        exact k
      · refine ifF c1 ?_
        have e : decide (a ≤ n ∧ n ≤ b) = false := by simp [c1]
        rw [e] at k
        exact k
    · exact ⟨_, rfl, _, false, rfl, c, false, rfl, iteF k⟩
theorem ok_is_pair : FnOk P w K mg base CX0 1 T.a_is_pair T.d_is_pair P_is_pair sp_is_pair := by
  refine T.F_is_pair.ok sc_is_pair (fun vs H Q E h => ?_) (fun cdv A outer s H vs Q E hr h => ?_)
  · obtain ⟨a, xs, rfl, _⟩ := h; rfl
  · obtain ⟨a, xs, rfl, ha, hl, k⟩ := h
    refine ⟨_, (pss_one (ps_ret (pe_and (pe_callB call_isi (by rfl) T.n_isinstance (by decide +kernel) (pa_cons (pv 0) (pa_cons (pe_bltn (v := .ty "tuple") (by rfl) T.n_tuple (by decide +kernel) rfl) pa_nil))) (pe_one (pe_cmpR op_eq (pe_callB call_len (by rfl) T.n_len (by decide +kernel) (pa_cons (pv 0) pa_nil)) pe_int (nomark _)))))), ?_⟩
    refine ⟨_, rfl, .ref a, .ty "tuple", .type "tuple", .type "tuple", true, rfl, .ty _, .base (.tup ha), by rfl, true, rfl, ?_⟩
    refine iteT ⟨_, rfl, .ref a, 2, rfl, Or.inr ⟨xs, SqT.of ha, hl.symm⟩, rfl, k⟩
theorem ok_is_triple : FnOk P w K mg base CX0 1 T.a_is_triple T.d_is_triple P_is_triple sp_is_triple := by
  refine T.F_is_triple.ok sc_is_triple (fun vs H Q E h => ?_) (fun cdv A outer s H vs Q E hr h => ?_)
  · obtain ⟨a, xs, rfl, _⟩ := h; rfl
  · obtain ⟨a, xs, rfl, ha, hl, k⟩ := h
    refine ⟨_, (pss_one (ps_ret (pe_and (pe_callB call_isi (by rfl) T.n_isinstance (by decide +kernel) (pa_cons (pv 0) (pa_cons (pe_bltn (v := .ty "tuple") (by rfl) T.n_tuple (by decide +kernel) rfl) pa_nil))) (pe_one (pe_cmpR op_eq (pe_callB call_len (by rfl) T.n_len (by decide +kernel) (pa_cons (pv 0) pa_nil)) pe_int (nomark _)))))), ?_⟩
    refine ⟨_, rfl, .ref a, .ty "tuple", .type "tuple", .type "tuple", true, rfl, .ty _, .base (.tup ha), by rfl, true, rfl, ?_⟩
    refine iteT ⟨_, rfl, .ref a, 3, rfl, Or.inr ⟨xs, SqT.of ha, hl.symm⟩, rfl, k⟩
theorem ok_are_ascending : FnOk P w K mg base CX0 1 T.a_are_ascending T.d_are_ascending P_are_ascending sp_are_ascending := by
  refine T.F_are_ascending.ok sc_are_ascending (fun vs H Q E h => ?_) (fun cdv A outer s H vs Q E hr h => ?_)
  · obtain ⟨a, xs, r, rfl, _⟩ := h; rfl
  · obtain ⟨a, xs, r, rfl, ha, hl, asc, k⟩ := h
    refine ⟨_, (pss_cons (ps_for PassesOwn.never rfl (pi_range2 rfl T.n_range (pa_cons pe_int (pa_cons (pe_callB call_len (by rfl) T.n_len (by decide +kernel) (pa_cons (pv 0) pa_nil)) pa_nil))) (pg_name (i := 1) sc_are_ascending.nd rfl (Or.inl rfl)) (pss_one (ps_if (pt_cmpR (op_geD hr) (pe_ix ix_tup (pv 0) (pe_op op_sub (pv 1) pe_int) (fun _ _ => rfl)) (pe_ix ix_tup (pv 0) (pv 1) (fun _ _ => rfl)) (nomark _)) (pss_one (ps_ret pe_bl)) pss_nil)))
  (pss_one (ps_ret pe_bl))), ?_⟩
    refine ⟨_, rfl, .ref a, xs.length, rfl, Or.inr ⟨xs, SqT.of ha, rfl⟩, 1, xs.length, rfl, ⟨by decide, by decide, by omega, by omega⟩, for_range (fun i σ H' => H' = H ∧ (∃ o, σ = [some (.ref a), o]) ∧ ((∃ ns : List Int, Paired (II H) xs ns ∧ (r = true ↔ ns.Pairwise (· < ·)) ∧ ∀ j (_ : j + 1 < ns.length), j < i → ns[j] < ns[j + 1]) ∨ ∃ ns : List (List Int), Paired (TI H) xs ns ∧ (r = true ↔ ns.Pairwise (· < ·)) ∧ ∀ j (_ : j + 1 < ns.length), j < i → ns[j] < ns[j + 1]))
      ⟨rfl, ⟨none, rfl⟩, asc.imp (fun ⟨ns, h1, h2⟩ => ⟨ns, h1, h2, fun j _ h => by omega⟩) fun ⟨ns, h1, h2⟩ => ⟨ns, h1, h2, fun j _ h => by omega⟩⟩ ?_ ?_⟩
    · rintro i σ H' hi ⟨rfl, ⟨o, rfl⟩, st⟩
      have h1 : i + 1 < xs.length := by omega
      have e1 : atI xs (1 + (i : Int) - 1) = some xs[i] := atI_nat (by simp) (i := i) (by omega)
      have e2 : atI xs (1 + (i : Int)) = some xs[i + 1] := atI_nat (by simp) (i := i + 1) (by omega)
      refine ⟨_, rfl, _, rfl, _, _, rfl, rfl, a, xs, _, _, rfl, rfl, SqT.of ha, e1, _, rfl, _, rfl, a, xs, _, _, rfl, rfl, SqT.of ha, e2, ?_⟩
      rcases st with ⟨ns, pr, pw, old⟩ | ⟨ns, pr, pw, old⟩
      · have ln := plen pr
        obtain ⟨x, q1, r1⟩ := pgetL pr (i := i) (x := xs[i]) (by simp)
        obtain ⟨y, q2, r2⟩ := pgetL pr (i := i + 1) (x := xs[i + 1]) (by simp)
        obtain ⟨l1, q1⟩ := List.getElem?_eq_some_iff.mp q1
        obtain ⟨l2, q2⟩ := List.getElem?_eq_some_iff.mp q2
        refine Or.inl ⟨x, y, r1, r2, _, rfl, ?_⟩
        by_cases lt : x < y
        · refine ifF (by omega) ⟨rfl, ⟨_, rfl⟩, .inl ⟨ns, pr, pw, fun j hj hji => ?_⟩⟩
          by_cases e : j = i
          · subst e; rw [q1, q2]; exact lt
          · exact old j hj (by omega)
        · refine ifT (by omega) ?_
          rw [b_not pw (fun z => lt (by rw [← q1, ← q2]; exact List.pairwise_iff_getElem.mp z i (i + 1) l1 l2 (by omega)))] at k
          exact k
      · have ln := plen pr
        obtain ⟨x, q1, c, r1, r1'⟩ := pgetL pr (i := i) (x := xs[i]) (by simp)
        obtain ⟨y, q2, d, r2, r2'⟩ := pgetL pr (i := i + 1) (x := xs[i + 1]) (by simp)
        obtain ⟨l1, q1⟩ := List.getElem?_eq_some_iff.mp q1
        obtain ⟨l2, q2⟩ := List.getElem?_eq_some_iff.mp q2
        refine Or.inr ⟨c, d, x, y, r1, r2, SqT.of r1', SqT.of r2', _, rfl, ?_⟩
        by_cases lt : x < y
        · refine ifNT lt ⟨rfl, ⟨_, rfl⟩, .inr ⟨ns, pr, pw, fun j hj hji => ?_⟩⟩
          by_cases e : j = i
          · subst e; rw [q1, q2]; exact lt
          · exact old j hj (by omega)
        · refine ifNF lt ?_
          rw [b_not pw (fun z => lt (by rw [← q1, ← q2]; exact List.pairwise_iff_getElem.mp z i (i + 1) l1 l2 (by omega)))] at k
          exact k
    · rintro σ H' ⟨rfl, ⟨o, rfl⟩, st⟩
      have e : r = true := by
        rcases st with ⟨ns, pr, pw, old⟩ | ⟨ns, pr, pw, old⟩
        · have ln := plen pr
          exact pw.mpr (adj_pw (fun a b c h1 h2 => by omega) fun i hi => old i hi (by omega))
        · have ln := plen pr
          exact pw.mpr (adj_pw (fun a b c h1 h2 => List.lt_trans h1 h2) fun i hi => old i hi (by omega))
      rw [e] at k
      exact k
theorem ok_are_sizes : FnOk P w K mg base CX0 3 T.a_are_sizes T.d_are_sizes P_are_sizes sp_are_sizes := by
  refine T.F_are_sizes.ok sc_are_sizes (fun vs H Q E h => ?_) (fun cdv A outer s H vs Q E hr h => ?_)
  · obtain ⟨v, sz, r, rfl, _⟩ := h; rfl
  · obtain ⟨v, sz, r, rfl, ⟨a, rfl, ha⟩, h3, hz, k⟩ := h
    refine ⟨_, (pss_one (ps_ret (pe_and (pe_call (ok_is_triple T) (hr.mono (by decide)) rfl T.g_is_triple T.k_is_triple T.b_is_triple .nil pass0 (pa_cons (pv 0) pa_nil)) (pe_one (pe_callB (cr_all rfl) (by rfl) T.n_all (by decide +kernel) (pa_cons (pe_lc (own := [("size", 1)]) rfl sc_are_sizes.nd (pi_tup (pv 0)) (blkOk_by (own := [("size", 1)]) (N := N_are_sizes) (sc := defScope s_are_sizes) (by decide +kernel)) (fun _ _ _ _ _ => (pg_name (i := 1) sc_are_sizes.nd rfl (Or.inl rfl))) (fun _ _ _ _ _ => pts_nil) (fun _ _ _ _ _ => (pe_call (ok_is_within T) (hr.mono (by decide)) rfl T.g_is_within T.k_is_within T.b_is_within .nil pass0 (pa_cons (pv 1) (pa_cons pe_int (pa_cons (pe_glob (v := .int (4)) rfl T.g_MOST_SIZE ⟨_, rfl⟩) pa_nil)))))) pa_nil)))))), ?_⟩
    refine ⟨_, rfl, a, _, rfl, ha, by simpa using h3, true, rfl, iteT ⟨_, rfl, a, rfl, ⟨_, SqT.of ha⟩, fun D hD => lc_T (R := II H) BB.stb (f := fun x => decide (1 ≤ x ∧ x ≤ 4)) hD (by simp [sizeLine_eq]; omega) (pmap_int sz) ha ?_ ?_⟩⟩
    · rintro v x H' hx rfl k' Q' q'
      exact ⟨rfl, _, rfl, .int x, 1, 4, _, rfl, .inl ⟨x, rfl, rfl⟩, q' _ _ .refl rfl⟩
    · intro H' ws k' hD' pw
      refine ⟨D, sz.map fun x => decide (1 ≤ x ∧ x ≤ 4), rfl, SqL.of (by rw [hD']; exact congrArg (fun l => some (HO.lst l)) (paired_bl pw)), ?_⟩
      have e : ((sz.map fun x => decide (1 ≤ x ∧ x ≤ 4)).all id) = r := by
        rw [Bool.eq_iff_iff, hz, List.all_eq_true]
        constructor
        · exact fun z => ⟨h3, fun x hx => of_decide_eq_true (z _ (List.mem_map.mpr ⟨x, hx, rfl⟩))⟩
        · rintro ⟨_, z⟩ y hy
          obtain ⟨x, hx, rfl⟩ := List.mem_map.mp hy
          exact decide_eq_true (z x hx)
      rw [e]
      exact k _ k'
theorem ok_is_move : FnOk P w K mg base CX0 3 T.a_is_move T.d_is_move P_is_move sp_is_move := by
  refine T.F_is_move.ok sc_is_move (fun vs H Q E h => ?_) (fun cdv A outer s H vs Q E hr h => ?_)
  · obtain ⟨u, n, v, sz, m, rfl, _⟩ := h; rfl
  · obtain ⟨u, n, v, sz, m, rfl, ⟨a, rfl, ha⟩, ⟨b, rfl, hb⟩, ⟨x, y, z, s', t, k', g, rfl, rfl, c1, c2, c3, c4⟩, k⟩ := h
    refine ⟨_, (pss_cons (ps_if (PW.pt (pw_or (pt_not (pt_val (pe_callB call_isi (by rfl) T.n_isinstance (by decide +kernel) (pa_cons (pv 2) (pa_cons (pe_bltn (v := .ty "tuple") (by rfl) T.n_tuple (by decide +kernel) rfl) pa_nil))))) (pw_or1 (pt_cmpR op_ne (pe_callB call_len (by rfl) T.n_len (by decide +kernel) (pa_cons (pv 2) pa_nil)) pe_int (nomark _))))) (pss_one (ps_ret pe_bl)) pss_nil)
  (pss_cons (ps_asg (pv 0) (pg_tup rfl (pgs_cons (pg_name (i := 3) sc_is_move.nd rfl (Or.inl rfl)) (pgs_cons (pg_name (i := 4) sc_is_move.nd rfl (Or.inl rfl)) (pgs_cons (pg_name (i := 5) sc_is_move.nd rfl (Or.inl rfl)) pgs_nil)))))
  (pss_cons (ps_if (PW.pt (pw_or (pt_not (pt_val (pe_call (ok_is_within T) (hr.mono (by decide)) rfl T.g_is_within T.k_is_within T.b_is_within .nil pass0 (pa_cons (pe_ix ix_tup (pv 2) pe_int (fun _ _ => rfl)) (pa_cons pe_int (pa_cons (pe_op op_sub (pv 3) pe_int) pa_nil)))))) (pw_or1 (pt_not (pt_val (pe_call (ok_is_within T) (hr.mono (by decide)) rfl T.g_is_within T.k_is_within T.b_is_within .nil pass0 (pa_cons (pe_ix ix_tup (pv 2) pe_int (fun _ _ => rfl)) (pa_cons pe_int (pa_cons (pe_op op_sub (pv 4) pe_int) pa_nil))))))))) (pss_one (ps_ret pe_bl)) pss_nil)
  (pss_one (ps_ret (pe_and (pe_call (ok_is_within T) (hr.mono (by decide)) rfl T.g_is_within T.k_is_within T.b_is_within .nil pass0 (pa_cons (pe_ix ix_tup (pv 2) pe_int (fun _ _ => rfl)) (pa_cons pe_int (pa_cons (pe_op op_sub (pv 5) pe_int) pa_nil)))) (pe_one (pe_call (ok_is_within T) (hr.mono (by decide)) rfl T.g_is_within T.k_is_within T.b_is_within .nil pass0 (pa_cons (pe_ix ix_tup (pv 2) pe_int (fun _ _ => rfl)) (pa_cons pe_int (pa_cons (pe_op op_sub (pv 1) pe_int) pa_nil))))))))))), ?_⟩
    refine ⟨_, rfl, .ref b, .ty "tuple", .type "tuple", .type "tuple", true, rfl, .ty _, .base (.tup hb), by rfl, true, rfl, iteF ⟨_, rfl, .ref b, 4, rfl, Or.inr ⟨_, SqT.of hb, rfl⟩, rfl, _, rfl, ifNT rfl ?_⟩⟩
    refine ⟨_, rfl, a, _, rfl, SqT.of ha, rfl, _, _, rfl, _, _, rfl, _, _, rfl, rfl, ?_⟩
    refine ⟨_, rfl, b, _, 0, _, rfl, rfl, SqT.of hb, rfl, _, rfl, _, _, rfl, rfl, .int s', 0, x - 1, true, rfl, isW_int c1, true, rfl, iteF ?_⟩
    refine ⟨_, rfl, b, _, 1, _, rfl, rfl, SqT.of hb, rfl, _, rfl, _, _, rfl, rfl, .int t, 0, y - 1, true, rfl, isW_int c2, true, rfl, iteF ?_⟩
    refine ⟨_, rfl, b, _, 2, _, rfl, rfl, SqT.of hb, rfl, _, rfl, _, _, rfl, rfl, .int k', 0, z - 1, true, rfl, isW_int c3, true, rfl, iteT ?_⟩
    exact ⟨_, rfl, b, _, 3, _, rfl, rfl, SqT.of hb, rfl, _, rfl, _, _, rfl, rfl, .int g, 0, n - 1, true, rfl, isW_int c4, k⟩
theorem ok_are_moves : FnOk P w K mg base CX0 4 T.a_are_moves T.d_are_moves P_are_moves sp_are_moves := by
  refine T.F_are_moves.ok sc_are_moves (fun vs H Q E h => ?_) (fun cdv A outer s H vs Q E hr h => ?_)
  · obtain ⟨u, v, sz, mv, r, rfl, _⟩ := h; rfl
  · obtain ⟨u, v, sz, mv, r, rfl, ⟨a, rfl, ha⟩, ⟨b, vs, rfl, hb, pb⟩, hm, lmv, hr0, k⟩ := h
    rw [← hm.ok] at hr0
    have el := plen pb
    refine ⟨_, (pss_cons (ps_if (PW.pt (pw_or (pt_not (pt_val (pe_callB call_isi (by rfl) T.n_isinstance (by decide +kernel) (pa_cons (pv 1) (pa_cons (pe_bltn (v := .ty "tuple") (by rfl) T.n_tuple (by decide +kernel) rfl) pa_nil))))) (pw_or1 (pt_not (pt_chain op_le op_le pe_int (pe_callB call_len (by rfl) T.n_len (by decide +kernel) (pa_cons (pv 1) pa_nil)) (pe_glob (v := .int (20)) rfl T.g_MOST_STANDINGS ⟨_, rfl⟩)))))) (pss_one (ps_ret pe_bl)) pss_nil)
  (pss_cons (ps_for PassesOwn.never rfl (pi_tup (pv 1)) (pg_name (i := 2) sc_are_moves.nd rfl (Or.inl rfl)) (pss_cons (ps_if (PW.pt (pw_or (pt_not (pt_val (pe_callB call_isi (by rfl) T.n_isinstance (by decide +kernel) (pa_cons (pv 2) (pa_cons (pe_bltn (v := .ty "tuple") (by rfl) T.n_tuple (by decide +kernel) rfl) pa_nil))))) (pw_or1 (pt_not (pt_val (pe_callB (cr_all rfl) (by rfl) T.n_all (by decide +kernel) (pa_cons (pe_lc (own := [("move", 3)]) rfl sc_are_moves.nd (pi_tup (pv 2)) (blkOk_by (own := [("move", 3)]) (N := N_are_moves) (sc := defScope s_are_moves) (by decide +kernel)) (fun _ _ _ _ _ => (pg_name (i := 3) sc_are_moves.nd rfl (Or.inl rfl))) (fun _ _ _ _ _ => pts_nil) (fun _ _ _ _ _ => (pe_call (ok_is_move T) (hr.mono (by decide)) rfl T.g_is_move T.k_is_move T.b_is_move .nil pass0 (pa_cons (pv 0) (pa_cons (pe_callB (lenK K rfl) (by rfl) T.n_len (by decide +kernel) (pa_cons (pv 1) pa_nil)) (pa_cons (pv 3) pa_nil)))))) pa_nil))))))) (pss_one (ps_ret pe_bl)) pss_nil)
  (pss_one (ps_if (pt_not (pt_val (pe_call (ok_are_ascending T) (hr.mono (by decide)) rfl T.g_are_ascending T.k_are_ascending T.b_are_ascending .nil pass0 (pa_cons (pv 2) pa_nil)))) (pss_one (ps_ret pe_bl)) pss_nil))))
  (pss_one (ps_ret pe_bl)))), ?_⟩
    refine ⟨_, rfl, .ref b, .ty "tuple", .type "tuple", .type "tuple", true, rfl, .ty _, .base (.tup hb), by rfl, true, rfl, iteF ⟨_, rfl, .ref b, vs.length, rfl, Or.inr ⟨_, SqT.of hb, rfl⟩, _, _, rfl, rfl, true, bT (by have := hm.1; omega), iteT ⟨_, _, rfl, rfl, _, rfl, ?_⟩⟩⟩
    by_cases c20 : mv.length ≤ 20
    · refine ifNT (by omega) ?_
      refine ⟨_, rfl, b, rfl, ⟨_, SqT.of hb⟩, fo_T (R := TT TI H) (fun d σ H' => Ke H H' ∧ (∃ o o', σ = [some (.ref a), some (.ref b), o, o']) ∧ ∀ r ∈ d, r.Pairwise (· < ·)) pb ⟨.refl, ⟨_, _, rfl⟩, fun r z => by cases z⟩ (fun d σ H' p => p.1.at hb) ?_ ?_⟩
      · rintro d x r' v σ H1 e ⟨c, ws, rfl, hc, pc⟩ ⟨k1, ⟨o, o', rfl⟩, old⟩
        have hxm : x ∈ mv := by rw [e]; simp
        have hx := hm.2 x hxm
        have hc1 := k1.at hc
        have pc1 : Paired (TI H1) ws x := pimp (fun v x q => TI.stb _ _ v x k1.tx q) pc
        have lw := plen pc1
        refine ⟨_, rfl, .ref c, .ty "tuple", .type "tuple", .type "tuple", true, rfl, .ty _, .base (.tup hc1), by rfl, true, rfl, iteF ?_⟩
        refine ⟨_, rfl, c, rfl, ⟨_, SqT.of hc1⟩, fun D hD => lc_T (R := TI H1) BB.stb (f := fun _ => true) hD (by have := hx.2; simp [sizeLine_eq]; omega) pc1 hc1 ?_ ?_⟩
        · intro v m H2 hmm rm k2 Q' q'
          exact ⟨rfl, _, rfl, _, rfl, .ref b, vs.length, rfl, Or.inr ⟨_, SqT.of (Ke.at (k1.trans k2) hb), rfl⟩, _, rfl, _, _, _, sz, m, rfl, ⟨a, rfl, Ke.at (k1.trans k2) ha⟩, TI.stb _ _ _ _ k2.tx rm, (by rw [el]; exact hx.1 m hmm), q' _ _ .refl rfl⟩
        · intro H2 ws2 k2 hD2 pw2
          refine ⟨D, x.map fun _ => true, rfl, SqL.of (by rw [hD2]; exact congrArg (fun l => some (HO.lst l)) (paired_bl pw2)), _, rfl, ?_⟩
          rw [show ((x.map fun _ => true).all id) = true by simp]
          by_cases cp : x.Pairwise (· < ·)
          · refine iteF ⟨_, rfl, c, ws, true, rfl, k2.at hc1, (by have := hx.2; omega), Or.inr ⟨x, pimp (fun v x q => TI.stb _ _ v x k2.tx q) pc1, ⟨fun _ => cp, fun _ => rfl⟩⟩, _, rfl, iteF ⟨k1.trans k2, ⟨_, _, rfl⟩, fun y hy => ?_⟩⟩
            rcases List.mem_append.mp hy with z | z
            · exact old y z
            · rw [List.mem_singleton.mp z]; exact cp
          · refine iteF ⟨_, rfl, c, ws, false, rfl, k2.at hc1, (by have := hx.2; omega), Or.inr ⟨x, pimp (fun v x q => TI.stb _ _ v x k2.tx q) pc1, ⟨fun z => (by cases z), fun z => absurd z cp⟩⟩, _, rfl, iteT ?_⟩
            rw [b_not hr0 (fun z => cp (z.2 x hxm))] at k
            exact k _ (k1.trans k2)
      · rintro σ H1 ⟨k1, ⟨o, o', rfl⟩, old⟩
        rw [b_of hr0 ⟨c20, old⟩] at k
        exact k _ k1
    · refine ifNF (by omega) ?_
      rw [b_not hr0 (fun z => c20 z.1)] at k
      exact k _ .refl
theorem ok_are_closings : FnOk P w K mg base CX0 3 T.a_are_closings T.d_are_closings P_are_closings sp_are_closings := by
  refine T.F_are_closings.ok sc_are_closings (fun vs H Q E h => ?_) (fun cdv A outer s H vs Q E hr h => ?_)
  · obtain ⟨u, n, v, sz, cl, r, rfl, _⟩ := h; rfl
  · obtain ⟨u, n, v, sz, cl, r, rfl, ⟨a, rfl, ha⟩, ⟨b, vs, rfl, hb, pb⟩, h3, hm, hr0, k⟩ := h
    rw [← hm.ok] at hr0
    have el := plen pb
    refine ⟨_, (pss_cons (ps_if (PW.pt (pw_or (pt_not (pt_val (pe_callB call_isi (by rfl) T.n_isinstance (by decide +kernel) (pa_cons (pv 2) (pa_cons (pe_bltn (v := .ty "tuple") (by rfl) T.n_tuple (by decide +kernel) rfl) pa_nil))))) (pw_or1 (pt_cmpR op_ne (pe_callB call_len (by rfl) T.n_len (by decide +kernel) (pa_cons (pv 2) pa_nil)) (pv 1) (nomark _))))) (pss_one (ps_ret pe_bl)) pss_nil)
  (pss_cons (ps_for PassesOwn.never rfl (pi_tup (pv 2)) (pg_name (i := 3) sc_are_closings.nd rfl (Or.inl rfl)) (pss_cons (ps_if (PW.pt (pw_or (pt_not (pt_val (pe_callB call_isi (by rfl) T.n_isinstance (by decide +kernel) (pa_cons (pv 3) (pa_cons (pe_bltn (v := .ty "tuple") (by rfl) T.n_tuple (by decide +kernel) rfl) pa_nil))))) (pw_or1 (pt_not (pt_val (pe_callB (cr_all rfl) (by rfl) T.n_all (by decide +kernel) (pa_cons (pe_lc (own := [("mark", 4)]) rfl sc_are_closings.nd (pi_tup (pv 3)) (blkOk_by (own := [("mark", 4)]) (N := N_are_closings) (sc := defScope s_are_closings) (by decide +kernel)) (fun _ _ _ _ _ => (pg_name (i := 4) sc_are_closings.nd rfl (Or.inl rfl))) (fun _ _ _ _ _ => pts_nil) (fun _ _ _ _ _ => (pe_call (ok_is_within T) (hr.mono (by decide)) rfl T.g_is_within T.k_is_within T.b_is_within .nil pass0 (pa_cons (pv 4) (pa_cons pe_int (pa_cons (pe_op op_sub (pe_ix (ix_tupK K rfl) (pv 0) pe_int (fun _ _ => rfl)) pe_int) pa_nil)))))) pa_nil))))))) (pss_one (ps_ret pe_bl)) pss_nil)
  (pss_one (ps_if (pt_not (pt_val (pe_call (ok_are_ascending T) (hr.mono (by decide)) rfl T.g_are_ascending T.k_are_ascending T.b_are_ascending .nil pass0 (pa_cons (pv 3) pa_nil)))) (pss_one (ps_ret pe_bl)) pss_nil))))
  (pss_one (ps_ret pe_bl)))), ?_⟩
    refine ⟨_, rfl, .ref b, .ty "tuple", .type "tuple", .type "tuple", true, rfl, .ty _, .base (.tup hb), by rfl, true, rfl, iteF ⟨_, rfl, .ref b, vs.length, rfl, Or.inr ⟨_, SqT.of hb, rfl⟩, _, rfl, rfl, _, rfl, ?_⟩⟩
    refine ifNT (by rw [el, hm.1]) ?_
    refine ⟨_, rfl, b, rfl, ⟨_, SqT.of hb⟩, fo_T (R := TI H) (fun d σ H' => Ke H H' ∧ (∃ o o', σ = [some (.ref a), some (.int n), some (.ref b), o, o']) ∧ ∀ r ∈ d, r.Pairwise (· < ·)) pb ⟨.refl, ⟨_, _, rfl⟩, fun r z => by cases z⟩ (fun d σ H' p => p.1.at hb) ?_ ?_⟩
    · rintro d x r' v σ H1 e ⟨c, rfl, hc⟩ ⟨k1, ⟨o, o', rfl⟩, old⟩
      have hxm : x ∈ cl := by rw [e]; simp
      have hx := hm.2 x hxm
      have hc1 := k1.at hc
      refine ⟨_, rfl, .ref c, .ty "tuple", .type "tuple", .type "tuple", true, rfl, .ty _, .base (.tup hc1), by rfl, true, rfl, iteF ?_⟩
      refine ⟨_, rfl, c, rfl, ⟨_, SqT.of hc1⟩, fun D hD => lc_T (R := II H1) BB.stb (f := fun _ => true) hD (by have := hx.2; simp [sizeLine_eq]; omega) (pmap_int x) hc1 ?_ ?_⟩
      · rintro v m H2 hmm rfl k2 Q' q'
        obtain ⟨p, q, z, rfl, c1, c2⟩ := hx.1 m hmm
        exact ⟨rfl, _, rfl, _, rfl, a, _, 2, _, rfl, rfl, SqT.of (Ke.at (k1.trans k2) ha), rfl, _, _, rfl, rfl, .int m, 0, z - 1, true, rfl, isW_int ⟨c1, c2⟩, q' _ _ .refl rfl⟩
      · intro H2 ws2 k2 hD2 pw2
        refine ⟨D, x.map fun _ => true, rfl, SqL.of (by rw [hD2]; exact congrArg (fun l => some (HO.lst l)) (paired_bl pw2)), _, rfl, ?_⟩
        rw [show ((x.map fun _ => true).all id) = true by simp]
        by_cases cp : x.Pairwise (· < ·)
        · refine iteF ⟨_, rfl, c, _, true, rfl, k2.at hc1, (by have := hx.2; simp; omega), Or.inl ⟨x, pmap_int x, ⟨fun _ => cp, fun _ => rfl⟩⟩, _, rfl, iteF ⟨k1.trans k2, ⟨_, _, rfl⟩, fun y hy => ?_⟩⟩
          rcases List.mem_append.mp hy with z | z
          · exact old y z
          · rw [List.mem_singleton.mp z]; exact cp
        · refine iteF ⟨_, rfl, c, _, false, rfl, k2.at hc1, (by have := hx.2; simp; omega), Or.inl ⟨x, pmap_int x, ⟨fun z => (by cases z), fun z => absurd z cp⟩⟩, _, rfl, iteT ?_⟩
          rw [b_not hr0 (fun z => cp (z x hxm))] at k
          exact k _ (k1.trans k2)
    · rintro σ H1 ⟨k1, ⟨o, o', rfl⟩, old⟩
      rw [b_of hr0 old] at k
      exact k _ k1
end
end Fd
set_option Elab.async false
set_option linter.all false
set_option maxRecDepth 100000
set_option maxHeartbeats 4000000
namespace Fd
open PySem PySem.Spec PyProof.Rows L2
/-! ### a heap without what may change -/
open Classical in
noncomputable def Hd (S : Addr → Prop) (H : Hp) : Hp := fun a => if S a then none else H a
section
variable {S : Addr → Prop} {H H' : Hp} {a : Addr} {o : HO}
theorem Hd.at (h : Hd S H a = some o) : ¬ S a ∧ H a = some o := by
  unfold Hd at h
  by_cases c : S a
  · rw [if_pos c] at h; cases h
  · rw [if_neg c] at h; exact ⟨c, h⟩
theorem Hd.get (c : ¬ S a) (h : H a = some o) : Hd S H a = some o := by
  unfold Hd; rw [if_neg c]; exact h
theorem Hd.sub (a : Addr) (o : HO) (h : Hd S H a = some o) : H a = some o := (Hd.at h).2
theorem Hd.ke (k : Ks S H H') : Ke (Hd S H) (Hd S H') := Ke.of fun a o h => Hd.get (Hd.at h).1 (k.keep a o (Hd.at h).1 (Hd.at h).2)
theorem Hd.tx (k : Tx H H') : Tx (Hd S H) (Hd S H') := ⟨fun a xs h => Hd.get (Hd.at h).1 (k.tup a xs (Hd.at h).2)⟩
theorem Hd.anti {S' : Addr → Prop} (h : ∀ a, S a → S' a) : ∀ a o, Hd S' H a = some o → Hd S H a = some o := fun a o e => Hd.get (fun z => (Hd.at e).1 (h a z)) (Hd.at e).2
theorem Hd.no : Hd No H = H := by
  funext a; unfold Hd; rw [if_neg (fun z => z)]
end
/-- a smaller heap: what it tells holds in the greater one -/
abbrev Le (H H' : Hp) : Prop := ∀ a o, H a = some o → H' a = some o
theorem Le.ke {H H' : Hp} (h : Le H H') : Ke H H' := Ke.of h
theorem Hd.le {S : Addr → Prop} {H : Hp} : Le (Hd S H) H := Hd.sub

/-! ### the office -/
abbrev keyI (ns : List Int) : List Key := ns.map Sum.inl
theorem keyI_kV (ns : List Int) : (keyI ns).map kV = ns.map V.int := by
  rw [List.map_map]; rfl
theorem keyI_inj {ns ms : List Int} (h : keyI ns = keyI ms) : ns = ms := (List.map_inj_right (fun _ _ e => Sum.inl.inj e)).mp h
def goalsIn (row : List (List Int)) (st : List Int) : List Int := row.filterMap fun m => if m.take 3 = st then m[3]? else none
theorem goalsIn_snoc (row : List (List Int)) (s n k g : Int) (st : List Int) : goalsIn (row ++ [[s, n, k, g]]) st = if [s, n, k] = st then goalsIn row st ++ [g] else goalsIn row st := by
  unfold goalsIn
  rw [List.filterMap_append]
  by_cases c : [s, n, k] = st
  · rw [if_pos c]; simp [c]
  · rw [if_neg c]; simp [c]
/-- the goals of a row, by steps -/
def GA (H : Hp) (kvs : List (List Key × V)) (row : List (List Int)) : Prop := kvs.length ≤ row.length ∧
  ∀ st : List Int, (valV kvs (keyI st) = none ∧ goalsIn row st = []) ∨ ∃ li, valV kvs (keyI st) = some (.ref li) ∧ H li = some (.lst ((goalsIn row st).map V.int))
def Kept : Rl (List (List Int)) := fun H v row => ∃ d kvs, v = .ref d ∧ H d = some (.dT kvs) ∧ GA H kvs row
theorem Kept.sto : Sto Kept := fun H H' v row k ⟨d, kvs, e, hd, l, g⟩ => ⟨d, kvs, e, k.at hd, l, fun st => (g st).imp id fun ⟨li, h1, h2⟩ => ⟨li, h1, k.at h2⟩⟩
/-- .. while it is made -/
def GAi (H1 H : Hp) (g : Addr) (kvs : List (List Key × V)) (row : List (List Int)) : Prop := kvs.length ≤ row.length ∧
  (∀ st : List Int, (valV kvs (keyI st) = none ∧ goalsIn row st = []) ∨ ∃ li, valV kvs (keyI st) = some (.ref li) ∧ H1 li = none ∧ li ≠ g ∧ H li = some (.lst ((goalsIn row st).map V.int))) ∧
  ∀ st st' li, valV kvs (keyI st) = some (.ref li) → valV kvs (keyI st') = some (.ref li) → st = st'
theorem GAi.nil {H1 H : Hp} {g : Addr} : GAi H1 H g [] [] := ⟨Nat.le_refl _, fun st => .inl ⟨rfl, rfl⟩, fun st st' li h => by cases h⟩
theorem GAi.old {H1 H H2 : Hp} {g li : Addr} {kvs : List (List Key × V)} {row : List (List Int)} {s n k go : Int} (x : GAi H1 H g kvs row) (h : valV kvs (keyI [s, n, k]) = some (.ref li)) (hk : ∀ a xs, a ≠ li → H a = some (.lst xs) → H2 a = some (.lst xs))
    (h2 : H2 li = some (.lst ((goalsIn row [s, n, k] ++ [go]).map V.int))) : GAi H1 H2 g kvs (row ++ [[s, n, k, go]]) := by
  obtain ⟨x1, x2, x3⟩ := x
  refine ⟨by simp; omega, fun st => ?_, x3⟩
  rw [goalsIn_snoc]
  by_cases c : [s, n, k] = st
  · subst c
    rcases x2 [s, n, k] with ⟨z, _⟩ | ⟨l', h1, h3, h4, _⟩
    · rw [z] at h; cases h
    · rw [h1] at h; cases h
      exact .inr ⟨li, h1, h3, h4, by rw [if_pos rfl]; exact h2⟩
  · rw [if_neg c]
    rcases x2 st with z | ⟨l', h1, h3, h4, h5⟩
    · exact .inl z
    · refine .inr ⟨l', h1, h3, h4, hk l' _ (fun e => ?_) h5⟩
      subst e
      exact c (x3 _ _ _ h h1)
theorem GAi.new {H1 H H2 : Hp} {g li : Addr} {kvs : List (List Key × V)} {row : List (List Int)} {s n k go : Int} (x : GAi H1 H g kvs row) (h : valV kvs (keyI [s, n, k]) = none) (hl : H li = none) (hl1 : H1 li = none) (hg : li ≠ g) (hk : ∀ a xs, a ≠ li → a ≠ g → H a = some (.lst xs) → H2 a = some (.lst xs))
    (h2 : H2 li = some (.lst [V.int go])) : GAi H1 H2 g (putK kvs (keyI [s, n, k]) (.ref li)) (row ++ [[s, n, k, go]]) := by
  obtain ⟨x1, x2, x3⟩ := x
  have old : ∀ st l', valV kvs (keyI st) = some (.ref l') → l' ≠ li := fun st l' e z => by
    subst z
    rcases x2 st with ⟨q, _⟩ | ⟨m, h1, _, _, h5⟩
    · rw [q] at e; cases e
    · rw [h1] at e; cases e; rw [hl] at h5; cases h5
  refine ⟨Nat.le_trans (length_putK _ _ _) (by simp; omega), fun st => ?_, fun st st' l' e1 e2 => ?_⟩
  · rw [goalsIn_snoc, valV_put]
    by_cases c : [s, n, k] = st
    · subst c
      rw [if_pos rfl, if_pos rfl]
      rcases x2 [s, n, k] with ⟨_, z⟩ | ⟨l', h1, _⟩
      · exact .inr ⟨li, rfl, hl1, hg, by rw [z]; exact h2⟩
      · rw [h] at h1; cases h1
    · rw [if_neg c, if_neg (fun z => c (keyI_inj z).symm)]
      rcases x2 st with z | ⟨l', h1, h3, h4, h5⟩
      · exact .inl z
      · exact .inr ⟨l', h1, h3, h4, hk l' _ (old st l' h1) h4 h5⟩
  · rw [valV_put] at e1 e2
    by_cases c1 : keyI st = keyI [s, n, k] <;> by_cases c2 : keyI st' = keyI [s, n, k]
    · exact (keyI_inj c1).trans (keyI_inj c2).symm
    · rw [if_pos c1] at e1; rw [if_neg c2] at e2; cases e1
      exact absurd rfl (old _ _ e2)
    · rw [if_neg c1] at e1; rw [if_pos c2] at e2; cases e2
      exact absurd rfl (old _ _ e1)
    · rw [if_neg c1] at e1; rw [if_neg c2] at e2
      exact x3 _ _ _ e1 e2

/-- what a class of offices must have -/
structure OC (K : PySem.W.Frag) (C : Addr) : Prop where
  c : Cls K C
  n1 : NoAttr K C "sizes"
  n2 : NoAttr K C "moves"
  n3 : NoAttr K C "closings"
  n4 : NoAttr K C "kept_goals"
  w : C = He.ga K "Office"
def offF (vs vm vc vk : V) : List (Str × V) := putF "kept_goals" vk (putF "closings" vc (putF "moves" vm (putF "sizes" vs [])))
section
variable (vs vm vc vk : V)
theorem offF_s : (offF vs vm vc vk).lookup ("sizes" : Str) = some vs := by
  unfold offF
  rw [lookup_putF, if_neg (by decide +kernel), lookup_putF, if_neg (by decide +kernel), lookup_putF, if_neg (by decide +kernel), lookup_putF, if_pos rfl]
theorem offF_m : (offF vs vm vc vk).lookup ("moves" : Str) = some vm := by
  unfold offF
  rw [lookup_putF, if_neg (by decide +kernel), lookup_putF, if_neg (by decide +kernel), lookup_putF, if_pos rfl]
theorem offF_c : (offF vs vm vc vk).lookup ("closings" : Str) = some vc := by
  unfold offF
  rw [lookup_putF, if_neg (by decide +kernel), lookup_putF, if_pos rfl]
theorem offF_k : (offF vs vm vc vk).lookup ("kept_goals" : Str) = some vk := by
  unfold offF
  rw [lookup_putF, if_pos rfl]
end
/-- an office stands at p -/
structure OffAt (C : Addr) (H : Hp) (p : Addr) (sz : List Int) (mv : List (List (List Int))) (cl : List (List Int)) : Prop where
  ex : ∃ dx vs vm vc l ds, H p = some (.ins C dx (offF vs vm vc (.ref l))) ∧ TI H vs sz ∧ MV H vm mv ∧ CL H vc cl ∧ H l = some (.lst ds) ∧ Paired (Kept H) ds mv
theorem OffAt.ke {C : Addr} {H H' : Hp} {p : Addr} {sz : List Int} {mv : List (List (List Int))} {cl : List (List Int)} (x : OffAt C H p sz mv cl) (k : Ke H H') : OffAt C H' p sz mv cl := by
  obtain ⟨dx, vs, vm, vc, l, ds, h1, h2, h3, h4, h5, h6⟩ := x.ex
  exact ⟨dx, vs, vm, vc, l, ds, k.at h1, TI.stb _ _ _ _ k.tx h2, TT.stb (TT.stb TI.stb) _ _ _ _ k.tx h3, TT.stb TI.stb _ _ _ _ k.tx h4, k.at h5, pimp (fun v x r => Kept.sto _ _ v x k r) h6⟩
/-- rows whose moves have four parts -/
def Fours (mv : List (List (List Int))) : Prop := ∀ r ∈ mv, r.length < 1000000 ∧ ∀ m ∈ r, m.length = 4
/-- keep(sizes, moves, closings) of an object at p; S: what the office must not lean on -/
def sp_keep (K : PySem.W.Frag) : Sp := fun xs H Q _ => ∃ S C p dx vs vm vc sz mv cl, xs = [.ref p, vs, vm, vc] ∧ OC K C ∧ H p = some (.ins C dx []) ∧ ¬ S p ∧ (∀ a, S a → H a ≠ none) ∧ TI (Hd S H) vs sz ∧ MV (Hd S H) vm mv ∧ CL (Hd S H) vc cl ∧ Fours mv ∧ mv.length < 1000000 ∧
  ∀ H', Ks (· = p) H H' → OffAt C (Hd S H') p sz mv cl → Q .non H'
section
variable {P : Program} {w : World} {K : PySem.W.Frag} {mg : Str → Option Value} {base : Heap} (T : Txt K mg)
include T
theorem Txt.oc : OC K T.a_Office := ⟨T.c_Office, T.f_Office_sizes, T.f_Office_moves, T.f_Office_closings, T.f_Office_kept_goals, T.e_Office⟩
omit T in
theorem ok_keep {f : Addr} {fd : FuncData} (F : Fun K "keep" "Office.keep" s_Office_keep f fd) : FnOk P w K mg base CX0 1 f fd P_Office_keep (sp_keep K) := by
  refine F.ok sc_Office_keep (fun vs H Q E h => ?_) (fun cdv A outer s H vs Q E hr h => ?_)
  · obtain ⟨S, C, p, dx, vs, vm, vc, sz, mv, cl, rfl, _⟩ := h; rfl
  · obtain ⟨S, C, p, dx, vs, vm, vc, sz, mv, cl, rfl, oc, hp, sp, hS, hs, ⟨m, ms, rfl, hm, pm⟩, hc, f4, lm, k⟩ := h
    have hu := hu_of hr
    have oc' := oc
    obtain ⟨c, n1, n2, n3, n4, _⟩ := oc
    have elm := plen pm
    refine ⟨_, (pss_cons (ps_fld (pv 0) (pv 1) rfl)
  (pss_cons (ps_fld (pv 0) (pv 2) rfl)
  (pss_cons (ps_fld (pv 0) (pv 3) rfl)
  (pss_cons (ps_fld (pv 0) (pe_lst pa_nil) rfl)
  (pss_one (ps_for PassesOwn.never rfl (pi_tup (pv 2)) (pg_name (i := 4) sc_Office_keep.nd rfl (Or.inl rfl)) (pss_cons (ps_set (i := 5) sc_Office_keep.nd rfl (Or.inl rfl) pe_dnewT)
  (pss_cons (ps_for PassesOwn.never rfl (pi_tup (pv 4)) (pg_tup rfl (pgs_cons (pg_name (i := 6) sc_Office_keep.nd rfl (Or.inl rfl)) (pgs_cons (pg_name (i := 7) sc_Office_keep.nd rfl (Or.inl rfl)) (pgs_cons (pg_name (i := 8) sc_Office_keep.nd rfl (Or.inl rfl)) (pgs_cons (pg_name (i := 9) sc_Office_keep.nd rfl (Or.inl rfl)) pgs_nil))))) (pss_one (ps_expr (pe_bm PySem.F.plainAttrs_list PySem.F.slot_list_append PySem.F.type_list_append mt_append (pe_dsetdT hu (pv 5) (pe_tup (pa_cons (pv 6) (pa_cons (pv 7) (pa_cons (pv 8) pa_nil)))) (pe_lst pa_nil) ⟨rfl, rfl, rfl, rfl⟩) (pa_cons (pv 9) pa_nil)))))
  (pss_one (ps_expr (pe_bm PySem.F.plainAttrs_list PySem.F.slot_list_append PySem.F.type_list_append mt_append (pe_fld (pv 0) rfl) (pa_cons (pv 5) pa_nil)))))))))))), ?_⟩
    refine ⟨_, rfl, _, rfl, p, C, dx, [], rfl, hp, c, n1, by decide, _, rfl, _, rfl, p, C, dx, _, rfl, upd_same, c, n2, (by show 1 < 1000; decide), _, rfl, _, rfl, p, C, dx, _, rfl, upd_same, c, n3, (by show 2 < 1000; decide), ?_⟩
    rw [upd_upd, upd_upd]
    refine ⟨by decide, fun l hl => ?_⟩
    have npl : p ≠ l := fun z => by rw [← z, upd_same] at hl; cases hl
    have hl0 : H l = none := by rw [upd_ne npl.symm] at hl; exact hl
    refine ⟨_, rfl, p, C, dx, _, rfl, by rw [upd_ne npl, upd_same], c, n4, (by show 3 < 1000; decide), ?_⟩
    -- the heap with the four attributes
    generalize hH1 : upd (upd (upd H p _) l (.lst [])) p _ = H1
    have h1p : H1 p = some (.ins C dx (offF vs (.ref m) vc (.ref l))) := by rw [← hH1]; exact upd_same
    have h1l : H1 l = some (.lst []) := by rw [← hH1, upd_ne npl.symm, upd_same]
    have k1 : Ks (· = p) H H1 := by
      rw [← hH1]
      refine ((Ks.mut (S := (· = p)) .refl rfl (fun xs e => ?_)).mutNew hl0).mut rfl (fun xs e => ?_)
      · rw [hp] at e; cases e
      · rw [upd_ne npl, upd_same] at e; cases e
    have hmH := (Hd.at hm).2
    have hm1 : H1 m = some (.tup ms) := k1.tup _ _ hmH
    have new : ∀ a, H a = none → ¬ S a := fun a e z => hS a z e
    refine ⟨_, rfl, m, rfl, ⟨_, SqT.of hm1⟩, fo_T (R := TT TI (Hd S H)) (fun d σ H' => (∃ o1 o2 o3 o4 o5 o6, σ = [some (.ref p), some vs, some (.ref m), some vc, o1, o2, o3, o4, o5, o6]) ∧ Ks (fun a => a = p) H H' ∧ H' m = some (.tup ms) ∧ H' p = some (.ins C dx (offF vs (.ref m) vc (.ref l))) ∧
        ∃ ds, H' l = some (.lst ds) ∧ Paired (Kept (Hd (fun a => S a ∨ a = l) H')) ds d) pm ⟨⟨_, _, _, _, _, _, rfl⟩, k1, hm1, h1p, [], h1l, .nil⟩ (fun d σ H' p => p.2.2.1) ?_ ?_⟩
    · rintro d x r v σ H2 e ⟨rw, ws, rfl, hrw, prw⟩ ⟨⟨o1, o2, o3, o4, o5, o6, rfl⟩, k2, hm2, hp2, ds, hl2, pd⟩
      have hrw2 : H2 rw = some (.tup ws) := k2.tup _ _ (Hd.at hrw).2
      have fx := f4 x (by rw [e]; simp)
      have lx := plen prw
      -- goals = {}
      intro g hg
      refine ⟨_, rfl, rw, rfl, ⟨_, SqT.of ((Ke.new hg).at hrw2)⟩, fo_T (R := TI (Hd S H)) (fun e σ H' => (∃ o3 o4 o5 o6, σ = [some (.ref p), some vs, some (.ref m), some vc, some (.ref rw), some (.ref g), o3, o4, o5, o6]) ∧ Ke H2 H' ∧
          ∃ kvs, H' g = some (.dT kvs) ∧ GAi H2 H' g kvs e) prw ⟨⟨_, _, _, _, rfl⟩, Ke.new hg, [], upd_same, .nil⟩ (fun d σ H' p => p.2.1.at hrw2) ?_ ?_⟩
      · rintro e' y r' v' σ' H3 ey ⟨b, rfl, hb⟩ ⟨⟨o3, o4, o5, o6, rfl⟩, k3, kvs, hg3, ga⟩
        have hb3 : H3 b = some (.tup (y.map V.int)) := k3.at (k2.tup _ _ (Hd.at hb).2)
        have ly := fx.2 y (by rw [ey]; simp)
        obtain ⟨s', n', k', go, rfl⟩ : ∃ s' n' k' go, y = [s', n', k', go] := by
          match y, ly with
          | [s', n', k', go], _ => exact ⟨_, _, _, _, rfl⟩
        have lk : kvs.length < 1000000 := by have := ga.1; rw [ey] at fx; simp at fx; omega
        refine ⟨b, _, rfl, SqT.of hb3, rfl, _, _, rfl, _, _, rfl, _, _, rfl, _, _, rfl, rfl, ?_⟩
        -- goals.setdefault((slip, answer, mark), []).append(goal)
        refine ⟨_, rfl, g, rfl, .inr ⟨_, .inl hg3⟩, _, rfl, _, rfl, _, rfl, (by show 3 ≤ sizeLine; decide), fun t ht => ⟨(by show 0 ≤ sizeLine; decide), fun li hli => ?_⟩⟩
        have k4 : Ke H3 (upd (upd H3 t (.tup [.int s', .int n', .int k'])) li (.lst [])) := (Ke.new ht).trans (Ke.new hli)
        have hg4 := k4.at hg3
        have nlt : li ≠ t := fun z => by rw [z, upd_same] at hli; cases hli
        have hli3 : H3 li = none := by
          rw [upd_ne nlt] at hli; exact hli
        have hli2 : H2 li = none := k3.free hli3
        have ngl : li ≠ g := (ne_of_none hg3 hli3).symm
        refine ⟨kvs, keyI [s', n', k'], t, hg4, rfl, by rw [upd_ne nlt.symm, upd_same, keyI_kV]; rfl, by rw [sizeLine_eq]; omega, fun v0 hv0 => ?_, fun hn0 => ?_⟩
        · obtain ⟨lo, e1, e2, e3, e4⟩ : ∃ lo, v0 = .ref lo ∧ H2 lo = none ∧ lo ≠ g ∧ H3 lo = some (.lst ((goalsIn e' [s', n', k']).map V.int)) := by
            rcases ga.2.1 [s', n', k'] with ⟨z, _⟩ | ⟨lo, z1, z2, z3, z4⟩
            · rw [hv0] at z; cases z
            · rw [hv0] at z1; cases z1; exact ⟨lo, rfl, z2, z3, z4⟩
          subst e1
          have hlen : (goalsIn e' [s', n', k']).length ≤ e'.length := List.length_filterMap_le _ _
          refine ⟨.inl ⟨rfl, _, SqL.of (k4.at e4)⟩, _, rfl, lo, _, _, rfl, rfl, k4.at e4, by rw [sizeLine_eq, List.length_map]; rw [ey] at fx; simp at fx; omega, ?_⟩
          refine ⟨⟨_, _, _, _, rfl⟩, (k3.trans k4).mutNew e2, kvs, by rw [upd_ne e3.symm]; exact hg4, ga.old hv0 (fun a xs na ha => by rw [upd_ne na]; exact k4.at ha) (by rw [upd_same, List.map_append]; rfl)⟩
        · refine ⟨.inl ⟨rfl, [], SqL.of (by rw [upd_ne ngl, upd_same])⟩, _, rfl, li, [], _, rfl, rfl, by rw [upd_ne ngl, upd_same], by decide, ?_⟩
          refine ⟨⟨_, _, _, _, rfl⟩, ((k3.trans k4).mutNew hg).mutNew hli2, putK kvs (keyI [s', n', k']) (.ref li), by rw [upd_ne ngl.symm, upd_same], ga.new hn0 hli3 hli2 ngl (fun a xs na ng ha => by rw [upd_ne na, upd_ne ng]; exact k4.at ha) upd_same⟩
      · rintro σ' H3 ⟨⟨o3, o4, o5, o6, rfl⟩, k3, kvs, hg3, ga⟩
        -- self.kept_goals.append(goals)
        have npl2 : l ≠ g := ne_of_none hl2 hg
        have lds := plen pd
        have ll : d.length < 1000000 := by rw [e] at lm; simp at lm; omega
        refine ⟨_, rfl, p, C, dx, _, _, rfl, k3.at hp2, c, n4, offF_k _ _ _ _, .inl ⟨rfl, _, SqL.of (k3.at hl2)⟩, _, rfl, l, ds, _, rfl, rfl, k3.at hl2, by rw [sizeLine_eq]; omega, ?_⟩
        have hlp : l ≠ p := npl.symm
        refine ⟨⟨_, _, _, _, _, _, rfl⟩, (k2.trans k3.ks).mutNew hl0, by rw [upd_ne (ne_of (k3.at hm2) (k3.at hl2) (fun z => nomatch z))]; exact k3.at hm2, by rw [upd_ne npl]; exact k3.at hp2, ds ++ [.ref g], upd_same, papp ?_ (.cons ?_ .nil)⟩
        · refine pimp (fun v x q => Kept.sto _ _ v x (Ke.of fun a o q => ?_) q) pd
          obtain ⟨na, qa⟩ := Hd.at q
          exact Hd.get na (by rw [upd_ne (fun z => na (.inr z))]; exact k3.at qa)
        · have fr : ∀ a, H2 a = none → ¬ (S a ∨ a = l) := fun a z q => q.elim (fun q => new a (k2.free z) q) fun q => by rw [q, hl2] at z; cases z
          refine ⟨g, kvs, rfl, Hd.get (fr g hg) (by rw [upd_ne npl2.symm]; exact hg3), ga.1, fun st => (ga.2.1 st).imp id fun ⟨li, e1, e2, e3, e4⟩ => ⟨li, e1, Hd.get (fr li e2) ?_⟩⟩
          rw [upd_ne (fun z => by rw [z, hl2] at e2; cases e2)]
          exact e4
    · rintro σ H2 ⟨⟨o1, o2, o3, o4, o5, o6, rfl⟩, k2, hm2, hp2, ds, hl2, pd⟩
      have kd : Tx (Hd S H) (Hd S H2) := Hd.tx k2.tx
      refine k H2 k2 ⟨dx, vs, .ref m, vc, l, ds, Hd.get sp hp2, TI.stb _ _ _ _ kd hs, ?_, TT.stb TI.stb _ _ _ _ kd hc, Hd.get (new l hl0) hl2, pimp (fun v x q => Kept.sto _ _ v x (Ke.of (Hd.anti fun a z => .inl z)) q) pd⟩
      exact ⟨m, ms, rfl, kd.tup _ _ hm, pimp (fun v x r => TT.stb TI.stb _ _ _ _ kd r) pm⟩
theorem ok_Office_keep : FnOk P w K mg base CX0 1 T.a_Office_keep T.d_Office_keep P_Office_keep (sp_keep K) := ok_keep T.F_Office_keep
end
end Fd
set_option Elab.async false
set_option linter.all false
set_option maxRecDepth 100000
set_option maxHeartbeats 4000000
namespace Fd
open PySem PySem.Spec PyProof.Rows L2
structure Good (sz : List Int) (mv : List (List (List Int))) (cl : List (List Int)) : Prop where
  s : Sizes sz
  m : MovesOk sz mv
  c : ClosOk sz mv.length cl
theorem Good.fours {sz : List Int} {mv : List (List (List Int))} {cl : List (List Int)} (g : Good sz mv cl) : Fours mv := fun r hr => ⟨(g.m.2.2 r hr).2.2, fun m hm => by
  obtain ⟨a, b, c, s, n, k, go, _, rfl, _⟩ := (g.m.2.2 r hr).1 m hm
  rfl⟩
/-- __init__ of an office at p -/
def sp_init (C : Addr) (W : List Int → List (List (List Int)) → List (List Int) → Prop) : Sp := fun xs H Q _ => ∃ S p dx vs vm vc sz mv cl, xs = [.ref p, vs, vm, vc] ∧ H p = some (.ins C dx []) ∧ ¬ S p ∧ (∀ a, S a → H a ≠ none) ∧ TI (Hd S H) vs sz ∧ MV (Hd S H) vm mv ∧ CL (Hd S H) vc cl ∧ W sz mv cl ∧
  ∀ H', Ks (· = p) H H' → OffAt C (Hd S H') p sz mv cl → Q .non H'
def Raw (sz : List Int) (mv : List (List (List Int))) (cl : List (List Int)) : Prop := Fours mv ∧ mv.length < 1000000
/-- which part of an office is none -/
def BadP (sz : List Int) (mv : List (List (List Int))) (cl : List (List Int)) (z : Str) : Prop := (¬ Sizes sz ∧ z = "sizes") ∨ (Sizes sz ∧ ¬ MovesOk sz mv ∧ z = "moves") ∨ (Sizes sz ∧ MovesOk sz mv ∧ ¬ ClosOk sz mv.length cl ∧ z = "closings")
/-- __init__ of an office at p, whatever its data -/
def sp_initX (C CB : Addr) : Sp := fun xs H Q E => ∃ S p dx vs vm vc sz mv cl, xs = [.ref p, vs, vm, vc] ∧ H p = some (.ins C dx []) ∧ ¬ S p ∧ (∀ a, S a → H a ≠ none) ∧ TI (Hd S H) vs sz ∧ MV (Hd S H) vm mv ∧ CL (Hd S H) vc cl ∧ sz.length = 3 ∧ mv.length < 1000000 ∧ (Sizes sz → MovesSh sz mv ∧ ClosSh sz mv.length cl) ∧
  (∀ z, BadP sz mv cl z → ∀ d H', Ke H H' → H' d = some (.xd [("part", .str z)]) → E (.ref CB) (some d) H') ∧ (Good sz mv cl → ∀ H', Ks (· = p) H H' → OffAt C (Hd S H') p sz mv cl → Q .non H')
theorem ks_exc {S : Addr → Prop} {H H7 : Hp} {e d : Addr} {o1 o2 o3 o4 : HO} (k : Ks S H H7) (he : H7 e = none) (hd : H7 d = none) (n : d ≠ e) : Ks S H (upd (del (upd (upd (upd H7 e o1) d o2) e o3) e) d o4) := by
  have g : ∀ a o, H7 a = some o → (upd (del (upd (upd (upd H7 e o1) d o2) e o3) e) d o4) a = some o := fun a o h => by
    have a1 : a ≠ d := ne_of_none h hd
    have a2 : a ≠ e := ne_of_none h he
    rw [upd_ne a1, del_ne a2, upd_ne a2, upd_ne a1, upd_ne a2]; exact h
  exact k.trans (Ke.of g).ks
theorem mk_bad {C : Addr} {z : Str} {σ : L2.St} {H : Hp} {k : XK} (h : ∀ d H', Ke H H' → H' d = some (.xd [("part", .str z)]) → k (Value.ref C) (some d) H') : tMkO C (sp_bad C) [] (tCons (tC (.str z)) tNil) σ H k := by
  unfold tMkO
  refine ⟨(by show 1 ≤ 1000; decide), fun ea hea => ?_⟩
  exact ⟨ea, z, rfl, upd_same, fun d hd nd => ⟨rfl, d, [("part", .str z)], upd_same, by rw [upd_ne nd]; exact upd_same, (by rw [upd_ne nd] at hd; exact hd), h d _ (ks_exc .refl hea (by rw [upd_ne nd] at hd; exact hd) nd) upd_same⟩⟩
section
variable {P : Program} {w : World} {K : PySem.W.Frag} {mg : Str → Option Value} {base : Heap} (T : Txt K mg) (Er : Err P K mg) (htop : (P.main.scope.names.lookup ("super" : Str)).isSome = false)
section
include T
end
include T Er htop
theorem ok_Office_init : FnOk P w K mg base (L2.CX P w) 5 T.a_Office_init T.d_Office_init P_Office_init (sp_initX T.a_Office Er.a_BadOffice) := by
  refine T.F_Office_init.okX sc_Office_init (fun vs H Q E h => ?_) (fun cdv A outer s H vs Q E hr h => ?_)
  · obtain ⟨S, p, dx, vs, vm, vc, sz, mv, cl, rfl, _⟩ := h; rfl
  · obtain ⟨S, p, dx, vs, vm, vc, sz, mv, cl, rfl, hp, sp, hS, hs, hm, hc, h3, lmv, sh, kE, k⟩ := h
    have tk : Takes (cxOf (L2.CX P w) P w K mg base N_Office_init "Office.__init__" (defScope s_Office_init) T.a_Office_init cdv A outer s H E) (fun cls d _ H' => E cls d H') := takes_of rfl rfl rfl rfl
    have le : Tx (Hd S H) H := ⟨fun a xs e => (Hd.at e).2⟩
    have hs0 := TI.stb _ _ _ _ le hs
    have hm0 := TT.stb (TT.stb TI.stb) _ _ _ _ le hm
    have hc0 := TT.stb TI.stb _ _ _ _ le hc
    refine ⟨_, (pss_cons (ps_if (pt_not (pt_val (pe_call (ok_are_sizes T) (hr.mono (by decide)) rfl T.g_are_sizes T.k_are_sizes T.b_are_sizes .nil pass0 (pa_cons (pv 1) pa_nil)))) (pss_one (ps_raise rfl tk (pmk_oex (CX := CX0) Er.u_BadOffice.oex Er.i_BadOffice Er.t_BadOffice (ok_BadOffice_init Er htop) (hr.mono (by decide)) Er.b_BadOffice_init .nil pass0 rfl Er.g_BadOffice (pa_cons pe_str pa_nil)))) pss_nil)
  (pss_cons (ps_if (pt_not (pt_val (pe_call (ok_are_moves T) (hr.mono (by decide)) rfl T.g_are_moves T.k_are_moves T.b_are_moves .nil pass0 (pa_cons (pv 1) (pa_cons (pv 2) pa_nil))))) (pss_one (ps_raise rfl tk (pmk_oex (CX := CX0) Er.u_BadOffice.oex Er.i_BadOffice Er.t_BadOffice (ok_BadOffice_init Er htop) (hr.mono (by decide)) Er.b_BadOffice_init .nil pass0 rfl Er.g_BadOffice (pa_cons pe_str pa_nil)))) pss_nil)
  (pss_cons (ps_if (pt_not (pt_val (pe_call (ok_are_closings T) (hr.mono (by decide)) rfl T.g_are_closings T.k_are_closings T.b_are_closings .nil pass0 (pa_cons (pv 1) (pa_cons (pe_callB call_len (by rfl) T.n_len (by decide +kernel) (pa_cons (pv 2) pa_nil)) (pa_cons (pv 3) pa_nil)))))) (pss_one (ps_raise rfl tk (pmk_oex (CX := CX0) Er.u_BadOffice.oex Er.i_BadOffice Er.t_BadOffice (ok_BadOffice_init Er htop) (hr.mono (by decide)) Er.b_BadOffice_init .nil pass0 rfl Er.g_BadOffice (pa_cons pe_str pa_nil)))) pss_nil)
  (pss_one (ps_expr (pe_meth (pv 0) T.c_Office T.t_Office_keep (ok_Office_keep T) (hr.mono (by decide)) T.b_Office_keep .nil pass0 (pa_cons (pv 1) (pa_cons (pv 2) (pa_cons (pv 3) pa_nil))))))))), ?_⟩
    by_cases cs : Sizes sz
    · refine ⟨_, rfl, vs, sz, true, rfl, hs0, h3, ⟨fun _ => cs, fun _ => rfl⟩, fun H1 k1 => ⟨true, rfl, iteF ?_⟩⟩
      obtain ⟨shm, shc⟩ := sh cs
      have hs1 := TI.stb _ _ _ _ k1.tx hs0
      have hm1 := TT.stb (TT.stb TI.stb) _ _ _ _ k1.tx hm0
      by_cases cm : MovesOk sz mv
      · refine ⟨_, rfl, _, rfl, vs, vm, sz, mv, true, rfl, hs1, hm1, shm, lmv, ⟨fun _ => cm, fun _ => rfl⟩, fun H2 k2 => ⟨true, rfl, iteF ?_⟩⟩
        have k12 := k1.trans k2
        obtain ⟨m, ms, rfl, hmm, pm⟩ := TT.stb (TT.stb TI.stb) _ _ _ _ k2.tx hm1
        have hcx := TT.stb TI.stb _ _ _ _ k12.tx hc0
        by_cases cc : ClosOk sz mv.length cl
        · refine ⟨_, rfl, _, rfl, .ref m, ms.length, rfl, .inr ⟨_, SqT.of hmm, rfl⟩, _, rfl, vs, _, vc, sz, cl, true, rfl, TI.stb _ _ _ _ k2.tx hs1, hcx, h3, (by rw [plen pm]; exact shc), (by rw [plen pm]; exact ⟨fun _ => cc, fun _ => rfl⟩), fun H3 k3 => ⟨true, rfl, iteF ?_⟩⟩
          have k13 : Ke H H3 := k12.trans k3
          have t3 : Tx (Hd S H) (Hd S H3) := Hd.tx k13.tx
          have g : Good sz mv cl := ⟨cs, cm, cc⟩
          refine ⟨_, rfl, p, dx, [], rfl, k13.at hp, rfl, _, rfl, _, rfl, _, rfl, S, T.a_Office, p, dx, vs, .ref m, vc, sz, mv, cl, rfl, T.oc, k13.at hp, sp, fun a z => k13.there a (hS a z), TI.stb _ _ _ _ t3 hs, TT.stb (TT.stb TI.stb) _ _ _ _ t3 hm, TT.stb TI.stb _ _ _ _ t3 hc, g.fours, by have := g.m.2.1; omega, fun H4 k4 o => k g H4 (k13.ks.trans k4) o⟩
        · refine ⟨_, rfl, _, rfl, .ref m, ms.length, rfl, .inr ⟨_, SqT.of hmm, rfl⟩, _, rfl, vs, _, vc, sz, cl, false, rfl, TI.stb _ _ _ _ k2.tx hs1, hcx, h3, (by rw [plen pm]; exact shc), (by rw [plen pm]; exact ⟨fun z => (by cases z), fun z => absurd z cc⟩), fun H3 k3 => ⟨false, rfl, iteT ?_⟩⟩
          have k13 : Ke H H3 := k12.trans k3
          exact mk_bad fun d H' kk hd => kE _ (.inr (.inr ⟨cs, cm, cc, rfl⟩)) d H' (k13.trans kk) hd
      · refine ⟨_, rfl, _, rfl, vs, vm, sz, mv, false, rfl, hs1, hm1, shm, lmv, ⟨fun z => (by cases z), fun z => absurd z cm⟩, fun H2 k2 => ⟨false, rfl, iteT ?_⟩⟩
        exact mk_bad fun d H' kk hd => kE _ (.inr (.inl ⟨cs, cm, rfl⟩)) d H' ((k1.trans k2).trans kk) hd
    · refine ⟨_, rfl, vs, sz, false, rfl, hs0, h3, ⟨fun z => (by cases z), fun z => absurd z cs⟩, fun H1 k1 => ⟨false, rfl, iteT ?_⟩⟩
      exact mk_bad fun d H' kk hd => kE _ (.inl ⟨cs, rfl⟩) d H' (k1.trans kk) hd
end
end Fd
set_option Elab.async false
set_option linter.all false
set_option maxRecDepth 100000
set_option maxHeartbeats 4000000
namespace Fd
open PySem PySem.Spec PyProof.Rows L2
/-- an office's data that any reader may take -/
structure Wf (o : Ofc) : Prop where
  sz : ∃ a b c, o.sz = [a, b, c] ∧ (1 ≤ a ∧ a ≤ 63) ∧ (1 ≤ b ∧ b ≤ 63) ∧ 1 ≤ c ∧ c ≤ 63
  n1 : 1 ≤ o.mv.length
  n2 : o.mv.length ≤ 63
  cl : o.cl.length = o.mv.length
  mv : ∀ r ∈ o.mv, r.length < 1000000 ∧ ∀ m ∈ r, MoveOk o.sz o.mv.length m
  ck : ∀ r ∈ o.cl, r.length < 1000000 ∧ ∀ k ∈ r, 0 ≤ k ∧ k < 63
abbrev OfAt (C : Addr) (H : Hp) (p : Addr) (o : Ofc) : Prop := OffAt C H p o.sz o.mv o.cl
theorem goalsIn_ok {o : Ofc} (w : Wf o) {r : List (List Int)} (hr : r ∈ o.mv) {st : List Int} : (goalsIn r st).length < 1000000 ∧ ∀ g ∈ goalsIn r st, 0 ≤ g ∧ g < o.mv.length := by
  obtain ⟨h1, h2⟩ := w.mv r hr
  refine ⟨Nat.lt_of_le_of_lt (List.length_filterMap_le _ _) h1, fun g hg => ?_⟩
  obtain ⟨m, hm, e⟩ := List.mem_filterMap.mp hg
  obtain ⟨a, b, c, s, n, k, g', _, rfl, _, _, _, h3, h4⟩ := h2 m hm
  by_cases q : ([s, n, k, g'] : List Int).take 3 = st
  · rw [if_pos q] at e
    have e' : g' = g := by simpa using e
    subst e'
    omega
  · rw [if_neg q] at e; cases e
/-- a dict of ints as a set -/
def DS (H : Hp) (f : Addr) (xs : List Int) : Prop := ∃ kvs ks, H f = some (.dK kvs) ∧ kvs.map (·.1) = keyI ks ∧ ks.Nodup ∧ ∀ x, x ∈ ks ↔ x ∈ xs
theorem DS.put {H : Hp} {f : Addr} {xs : List Int} {kvs : List (Key × V)} {ks : List Int} {g : Int} {v : V} (e : kvs.map (·.1) = keyI ks) (hn : ks.Nodup) (hm : ∀ x, x ∈ ks ↔ x ∈ xs) : DS (upd H f (.dK (putK kvs (.inl g) v))) f (xs ++ [g]) :=
  ⟨_, addk ks g, upd_same, keys_put Sum.inl (fun _ _ z => Sum.inl.inj z) e, addk_nodup hn, fun x => by rw [mem_addk, hm]; simp⟩
/-- loops over the heap alone -/
theorem lw_range {lo : Int} {n : Nat} {H0 : Hp} {Qd : Hp → Prop} {B : V → Hp → (Hp → Prop) → Prop} (Pv : Nat → Hp → Prop) (h0 : Pv 0 H0) (hs : ∀ i H, i < n → Pv i H → B (.int (lo + i)) H (Pv (i + 1))) (hd : ∀ H, Pv n H → Qd H) :
    ∃ W : Nat → Nat → Hp → Prop, (∃ m, W 0 m H0) ∧ ∀ i m H, W i m H → ((Itr lo n).stop i H ∧ Qd H) ∨ ((Itr lo n).go i H ∧ ∃ Nx : Hp → Prop, (∀ H', Nx H' → ∃ m', m' < m ∧ W (i + 1) m' H') ∧ ∀ x H', (Itr lo n).yld i H x H' → B x H' Nx) := by
  refine ⟨fun i m H => m = n - i ∧ i ≤ n ∧ Pv i H, ⟨n, by simp, Nat.zero_le _, h0⟩, ?_⟩
  rintro i m H ⟨rfl, hi, p⟩
  by_cases hlt : i < n
  · refine .inr ⟨hlt, Pv (i + 1), fun H' p' => ⟨n - (i + 1), by omega, rfl, hlt, p'⟩, fun x H' y => ?_⟩
    obtain ⟨e, y⟩ := y
    subst e y
    exact hs i _ hlt p
  · have e : i = n := by omega
    subst e
    exact .inl ⟨Nat.le_refl _, hd H p⟩
theorem lw_L {K : PySem.W.Frag} {α : Type} {R : V → α → Prop} {a : Addr} {vs : List V} {xs : List α} {H0 : Hp} {Qd : Hp → Prop} {B : V → Hp → (Hp → Prop) → Prop} (Pv : List α → Hp → Prop) (hp : Paired R vs xs) (h0 : Pv [] H0) (hk : ∀ d H, Pv d H → H a = some (.lst vs))
    (hs : ∀ d x r v H, xs = d ++ x :: r → R v x → Pv d H → B v H (Pv (d ++ [x]))) (hd : ∀ H, Pv xs H → Qd H) :
    ∃ W : Nat → Nat → Hp → Prop, (∃ m, W 0 m H0) ∧ ∀ i m H, W i m H → ((Itl K a).stop i H ∧ Qd H) ∨ ((Itl K a).go i H ∧ ∃ Nx : Hp → Prop, (∀ H', Nx H' → ∃ m', m' < m ∧ W (i + 1) m' H') ∧ ∀ x H', (Itl K a).yld i H x H' → B x H' Nx) := by
  have el := plen hp
  refine ⟨fun i m H => m = vs.length - i ∧ i ≤ vs.length ∧ Pv (xs.take i) H, ⟨vs.length, by simp, Nat.zero_le _, h0⟩, ?_⟩
  rintro i m H ⟨rfl, hi, p⟩
  have q := hk _ _ p
  by_cases hlt : i < vs.length
  · refine .inr ⟨⟨vs, vs[i], SqL.of q, by simp [hlt]⟩, Pv (xs.take (i + 1)), fun H' p' => ⟨vs.length - (i + 1), by omega, rfl, hlt, p'⟩, fun x H' y => ?_⟩
    obtain ⟨e, y⟩ := y
    subst e
    obtain ⟨z, e2, r⟩ := pgetL hp (y vs (SqL.of q))
    have e3 : xs[i]'(by omega) = z := (List.getElem?_eq_some_iff.mp e2).2
    have e4 : xs.take (i + 1) = xs.take i ++ [z] := by rw [List.take_succ, e2]; rfl
    rw [e4]
    exact hs (xs.take i) z (xs.drop (i + 1)) x _ (by rw [← e3, List.getElem_cons_drop, List.take_append_drop]) r p
  · have e : i = vs.length := by omega
    subst e
    rw [el, List.take_length] at p
    exact .inl ⟨⟨vs, SqL.of q, Nat.le_refl _⟩, hd H p⟩
theorem lw_T {K : PySem.W.Frag} {α : Type} {R : V → α → Prop} {a : Addr} {vs : List V} {xs : List α} {H0 : Hp} {Qd : Hp → Prop} {B : V → Hp → (Hp → Prop) → Prop} (Pv : List α → Hp → Prop) (hp : Paired R vs xs) (h0 : Pv [] H0) (hk : ∀ d H, Pv d H → H a = some (.tup vs))
    (hs : ∀ d x r v H, xs = d ++ x :: r → R v x → Pv d H → B v H (Pv (d ++ [x]))) (hd : ∀ H, Pv xs H → Qd H) :
    ∃ W : Nat → Nat → Hp → Prop, (∃ m, W 0 m H0) ∧ ∀ i m H, W i m H → ((Itt K a).stop i H ∧ Qd H) ∨ ((Itt K a).go i H ∧ ∃ Nx : Hp → Prop, (∀ H', Nx H' → ∃ m', m' < m ∧ W (i + 1) m' H') ∧ ∀ x H', (Itt K a).yld i H x H' → B x H' Nx) := by
  have el := plen hp
  refine ⟨fun i m H => m = vs.length - i ∧ i ≤ vs.length ∧ Pv (xs.take i) H, ⟨vs.length, by simp, Nat.zero_le _, h0⟩, ?_⟩
  rintro i m H ⟨rfl, hi, p⟩
  have q := hk _ _ p
  by_cases hlt : i < vs.length
  · refine .inr ⟨⟨vs, vs[i], SqT.of q, by simp [hlt]⟩, Pv (xs.take (i + 1)), fun H' p' => ⟨vs.length - (i + 1), by omega, rfl, hlt, p'⟩, fun x H' y => ?_⟩
    obtain ⟨e, y⟩ := y
    subst e
    obtain ⟨z, e2, r⟩ := pgetL hp (y vs (SqT.of q))
    have e3 : xs[i]'(by omega) = z := (List.getElem?_eq_some_iff.mp e2).2
    have e4 : xs.take (i + 1) = xs.take i ++ [z] := by rw [List.take_succ, e2]; rfl
    rw [e4]
    exact hs (xs.take i) z (xs.drop (i + 1)) x _ (by rw [← e3, List.getElem_cons_drop, List.take_append_drop]) r p
  · have e : i = vs.length := by omega
    subst e
    rw [el, List.take_length] at p
    exact .inl ⟨⟨vs, SqT.of q, Nat.le_refl _⟩, hd H p⟩
def sp_goals_of (K : PySem.W.Frag) : Sp := fun xs H Q _ => ∃ C p o u v ss st, xs = [.ref p, u, v] ∧ OC K C ∧ OfAt C H p o ∧ Wf o ∧ TI H u ss ∧ TI H v st ∧ (∀ s ∈ ss, 0 ≤ s ∧ s < o.mv.length) ∧ ∀ v' H', Ke H H' → TI H' v' (goalsM o ss st) → Q v' H'
def sp_lasts_of (K : PySem.W.Frag) : Sp := fun xs H Q _ => ∃ C p o u ss, xs = [.ref p, u] ∧ OC K C ∧ OfAt C H p o ∧ Wf o ∧ TI H u ss ∧ (∀ s ∈ ss, 0 ≤ s ∧ s < o.mv.length) ∧ ∀ v' H', Ke H H' → TI H' v' (lastsM o ss) → Q v' H'
def sp_all_steps (K : PySem.W.Frag) : Sp := fun xs H Q _ => ∃ C p o a b c, xs = [.ref p] ∧ OC K C ∧ OfAt C H p o ∧ Wf o ∧ o.sz = [a, b, c] ∧ ∀ l ws H', H l = none → Ke H H' → H' l = some (.lst ws) → Paired (TI H') ws (stepsM a b c) → Q (.ref l) H'
section
variable {P : Program} {w : World} {K : PySem.W.Frag} {mg : Str → Option Value} {base : Heap} (T : Txt K mg)
include T
theorem ok_goals_of : FnOk P w K mg base CX0 1 T.a_goals_of T.d_goals_of P_goals_of (sp_goals_of K) := by
  refine T.F_goals_of.ok sc_goals_of (fun vs H Q E h => ?_) (fun cdv A outer s H vs Q E hr h => ?_)
  · obtain ⟨C, p, o, u, v, ss, st, rfl, _⟩ := h; rfl
  · obtain ⟨C, p, o, u, v, ss, st, rfl, oc, of, wf, ⟨a, rfl, ha⟩, ⟨b, rfl, hb⟩, hss, k⟩ := h
    have hu := hu_of hr
    obtain ⟨dx, vs, vm, vc, l, ds, hp, _, _, _, hl, pd⟩ := of.ex
    refine ⟨_, (pss_cons (ps_set (i := 3) sc_goals_of.nd rfl (Or.inl rfl) pe_dnewK)
  (pss_cons (ps_for PassesOwn.never rfl (pi_tup (pv 1)) (pg_name (i := 4) sc_goals_of.nd rfl (Or.inl rfl)) (pss_one (ps_for PassesOwn.never rfl (pi_list (pe_dget2 hu (pe_ix ix_list (pe_fld (pv 0) rfl) (pv 4) (fun _ _ => rfl)) (pv 2) (pe_lst pa_nil) ⟨rfl, rfl, rfl, rfl⟩)) (pg_name (i := 5) sc_goals_of.nd rfl (Or.inl rfl)) (pss_one (ps_dput hu (pv 3) (pv 5) pe_bl rfl)))))
  (pss_one (ps_ret (pe_callTy call_tuple_of (by rfl) T.n_tuple (by decide +kernel) (pa_cons (pe_callB (call_sortedDI rfl) (by rfl) T.n_sorted (by decide +kernel) (pa_cons (pv 3) pa_nil)) pa_nil)))))), ?_⟩
    -- found = {}
    intro f hf
    have k0 : Ke H (upd H f (.dK [])) := Ke.new hf
    refine ⟨_, rfl, a, rfl, ⟨_, SqT.of (k0.at ha)⟩, fo_T (R := II H) (fun d σ H' => (∃ o1 o2, σ = [some (.ref p), some (.ref a), some (.ref b), some (.ref f), o1, o2]) ∧ Ke H H' ∧ DS H' f (d.flatMap fun s => goalsIn (at0 o.mv s) st)) (pmap_int ss)
      ⟨⟨_, _, rfl⟩, k0, [], [], upd_same, rfl, .nil, fun x => by simp⟩ (fun d σ H' p => p.2.1.at ha) ?_ ?_⟩
    · rintro d x r v σ H1 e rfl ⟨⟨o1, o2, rfl⟩, k1, kvs, ks, hf1, hk1, hn1, hm1⟩
      obtain ⟨x0, x1⟩ := hss x (by rw [e]; simp)
      obtain ⟨row, hrow⟩ : ∃ row, o.mv[x.toNat]? = some row := ⟨_, List.getElem?_eq_getElem (by omega)⟩
      have hrm : row ∈ o.mv := List.mem_of_getElem? hrow
      obtain ⟨dv, hdv, dd, kv, rfl, hdd, ga⟩ := pget pd hrow
      have edv : atI ds x = some (.ref dd) := atI_nat hdv (by omega)
      have hg := goalsIn_ok wf hrm (st := st)
      have er : at0 o.mv x = row := at0_of hrow
      refine ⟨_, rfl, p, C, dx, _, _, rfl, k1.at hp, oc.c, oc.n4, offF_k _ _ _ _, _, rfl, l, ds, x, _, rfl, rfl, SqL.of (k1.at hl), edv, dd, rfl, .inr ⟨_, .inl (k1.at hdd)⟩, _, rfl, (by show 0 ≤ sizeLine; decide), fun e0 he0 => ?_⟩
      have k2 : Ke H1 (upd H1 e0 (.lst [])) := Ke.new he0
      have dg : DGet (upd H1 e0 (.lst [])) dd (.ref b) (valV kv (keyI st)) := DGet.t (k2.at (k1.at hdd)) (by rw [keyI_kV]; exact k2.at (k1.at hb))
      obtain ⟨gl, eg, hgl⟩ : ∃ gl, (valV kv (keyI st)).getD (.ref e0) = .ref gl ∧ (upd H1 e0 (.lst [])) gl = some (.lst ((goalsIn row st).map V.int)) := by
        rcases ga.2 st with ⟨z1, z2⟩ | ⟨li, z1, z2⟩
        · exact ⟨e0, by rw [z1]; rfl, by rw [upd_same, z2]; rfl⟩
        · exact ⟨li, by rw [z1]; rfl, k2.at (k1.at z2)⟩
      refine ⟨_, dg, ?_⟩
      rw [eg]
      -- the list of goals
      refine ⟨gl, rfl, ⟨_, SqL.of hgl⟩, fo_L (R := II H) (fun d' σ H' => (∃ o2, σ = [some (.ref p), some (.ref a), some (.ref b), some (.ref f), some (.int x), o2]) ∧ Ke H H' ∧ H' gl = some (.lst ((goalsIn row st).map V.int)) ∧ DS H' f ((d.flatMap fun s => goalsIn (at0 o.mv s) st) ++ d')) (pmap_int (goalsIn row st))
          ⟨⟨_, rfl⟩, k1.trans k2, hgl, kvs, ks, k2.at hf1, hk1, hn1, fun x => by rw [hm1]; simp⟩ (fun d σ H' p => p.2.2.1) ?_ ?_⟩
      · rintro d' g r' v' σ' H3 e' rfl ⟨⟨o2, rfl⟩, k3, hgl3, kvs3, ks3, hf3, hk3, hn3, hm3⟩
        have l3 : ks3.length ≤ 63 := by
          refine Nat.le_trans (short_of hn3 (n := o.mv.length) fun z hz => ?_) wf.n2
          rcases List.mem_append.mp ((hm3 z).mp hz) with q | q
          · obtain ⟨s', hs', q⟩ := List.mem_flatMap.mp q
            obtain ⟨y0, y1⟩ := hss s' (by rw [e]; simp [hs'])
            have q2 : o.mv[s'.toNat]? = some (o.mv[s'.toNat]'(by omega)) := List.getElem?_eq_getElem (by omega)
            rw [at0_of q2] at q
            exact (goalsIn_ok wf (List.mem_of_getElem? q2)).2 z q
          · exact hg.2 z (by rw [e']; simp [q])
        have lk : kvs3.length = ks3.length := by have := congrArg List.length hk3; simpa using this
        refine ⟨_, rfl, _, rfl, f, _, rfl, DPut.k (k := .inl g) hf3 (by rw [sizeLine_eq]; omega), ⟨_, rfl⟩, k3.mutNew hf, ?_, ?_⟩
        · rw [upd_ne (ne_of hgl3 hf3 (fun z => nomatch z))]; exact hgl3
        · rw [← List.append_assoc]; exact DS.put hk3 hn3 hm3
      · rintro σ' H3 ⟨⟨o2, rfl⟩, k3, hgl3, q3⟩
        refine ⟨⟨_, _, rfl⟩, k3, ?_⟩
        rw [List.flatMap_append, List.flatMap_singleton, er]
        exact q3
    · rintro σ H1 ⟨⟨o1, o2, rfl⟩, k1, kvs, ks, hf1, hk1, hn1, hm1⟩
      have l1 : ks.length ≤ 63 := by
        refine Nat.le_trans (short_of hn1 (n := o.mv.length) fun z hz => ?_) wf.n2
        obtain ⟨s', hs', q⟩ := List.mem_flatMap.mp ((hm1 z).mp hz)
        obtain ⟨y0, y1⟩ := hss s' hs'
        have q2 : o.mv[s'.toNat]? = some (o.mv[s'.toNat]'(by omega)) := List.getElem?_eq_getElem (by omega)
        rw [at0_of q2] at q
        exact (goalsIn_ok wf (List.mem_of_getElem? q2)).2 z q
      refine ⟨_, rfl, f, kvs, ks, rfl, .inl hf1, hk1, by omega, fun ys q hp1 hp2 hq => ⟨q, _, rfl, .inl ⟨SqL.of upd_same, fun t ht => ?_⟩⟩⟩
      refine k _ _ ((k1.trans (Ke.new hq)).trans (Ke.new ht)) ⟨t, rfl, ?_⟩
      rw [upd_same, usort_of hp1 hp2 hn1 hm1]
      rfl
end
end Fd
set_option Elab.async false
set_option linter.all false
set_option maxRecDepth 100000
set_option maxHeartbeats 4000000
namespace Fd
open PySem PySem.Spec PyProof.Rows L2
section
variable {P : Program} {w : World} {K : PySem.W.Frag} {mg : Str → Option Value} {base : Heap} (T : Txt K mg)
include T
theorem ok_lasts_of : FnOk P w K mg base CX0 1 T.a_lasts_of T.d_lasts_of P_lasts_of (sp_lasts_of K) := by
  refine T.F_lasts_of.ok sc_lasts_of (fun vs H Q E h => ?_) (fun cdv A outer s H vs Q E hr h => ?_)
  · obtain ⟨C, p, o, u, ss, rfl, _⟩ := h; rfl
  · obtain ⟨C, p, o, u, ss, rfl, oc, of, wf, ⟨a, rfl, ha⟩, hss, k⟩ := h
    have hu := hu_of hr
    obtain ⟨dx, vs, vm, vc, l, ds, hp, _, _, ⟨c, cs, rfl, hc, pc⟩, _, _⟩ := of.ex
    refine ⟨_, (pss_cons (ps_set (i := 2) sc_lasts_of.nd rfl (Or.inl rfl) pe_dnewK)
  (pss_cons (ps_for PassesOwn.never rfl (pi_tup (pv 1)) (pg_name (i := 3) sc_lasts_of.nd rfl (Or.inl rfl)) (pss_one (ps_for PassesOwn.never rfl (pi_tup (pe_ix ix_tup (pe_fld (pv 0) rfl) (pv 3) (fun _ _ => rfl))) (pg_name (i := 4) sc_lasts_of.nd rfl (Or.inl rfl)) (pss_one (ps_dput hu (pv 2) (pv 4) pe_bl rfl)))))
  (pss_one (ps_ret (pe_callTy call_tuple_of (by rfl) T.n_tuple (by decide +kernel) (pa_cons (pe_callB (call_sortedDI rfl) (by rfl) T.n_sorted (by decide +kernel) (pa_cons (pv 2) pa_nil)) pa_nil)))))), ?_⟩
    intro f hf
    have k0 : Ke H (upd H f (.dK [])) := Ke.new hf
    have all63 : ∀ d : List Int, (∀ s ∈ d, s ∈ ss) → ∀ z ∈ d.flatMap (fun s => at0 o.cl s), 0 ≤ z ∧ z < (63 : Nat) := fun d hd z hz => by
      obtain ⟨s', hs', q⟩ := List.mem_flatMap.mp hz
      obtain ⟨y0, y1⟩ := hss s' (hd s' hs')
      have q2 : o.cl[s'.toNat]? = some (o.cl[s'.toNat]'(by have := wf.cl; omega)) := List.getElem?_eq_getElem (by have := wf.cl; omega)
      rw [at0_of q2] at q
      exact (wf.ck _ (List.mem_of_getElem? q2)).2 z q
    refine ⟨_, rfl, a, rfl, ⟨_, SqT.of (k0.at ha)⟩, fo_T (R := II H) (fun d σ H' => (∃ o1 o2, σ = [some (.ref p), some (.ref a), some (.ref f), o1, o2]) ∧ Ke H H' ∧ DS H' f (d.flatMap fun s => at0 o.cl s)) (pmap_int ss)
      ⟨⟨_, _, rfl⟩, k0, [], [], upd_same, rfl, .nil, fun x => by simp⟩ (fun d σ H' p => p.2.1.at ha) ?_ ?_⟩
    · rintro d x r v σ H1 e rfl ⟨⟨o1, o2, rfl⟩, k1, kvs, ks, hf1, hk1, hn1, hm1⟩
      obtain ⟨x0, x1⟩ := hss x (by rw [e]; simp)
      obtain ⟨row, hrow⟩ : ∃ row, o.cl[x.toNat]? = some row := ⟨_, List.getElem?_eq_getElem (by have := wf.cl; omega)⟩
      obtain ⟨cv, hcv, b, rfl, hb⟩ := pget pc hrow
      have er : at0 o.cl x = row := at0_of hrow
      refine ⟨_, rfl, p, C, dx, _, _, rfl, k1.at hp, oc.c, oc.n3, offF_c _ _ _ _, _, rfl, c, cs, x, _, rfl, rfl, SqT.of (k1.at hc), atI_nat hcv (by omega), b, rfl, ⟨_, SqT.of (k1.at hb)⟩, ?_⟩
      refine fo_T (R := II H) (fun d' σ H' => (∃ o2, σ = [some (.ref p), some (.ref a), some (.ref f), some (.int x), o2]) ∧ Ke H H' ∧ DS H' f ((d.flatMap fun s => at0 o.cl s) ++ d')) (pmap_int row)
          ⟨⟨_, rfl⟩, k1, kvs, ks, hf1, hk1, hn1, fun x => by rw [hm1]; simp⟩ (fun d σ H' p => p.2.1.at hb) ?_ ?_
      · rintro d' g r' v' σ' H3 e' rfl ⟨⟨o2, rfl⟩, k3, kvs3, ks3, hf3, hk3, hn3, hm3⟩
        have l3 : ks3.length ≤ 63 := by
          refine short_of hn3 (n := 63) fun z hz => ?_
          rcases List.mem_append.mp ((hm3 z).mp hz) with q | q
          · exact all63 d (fun s' hs' => by rw [e]; simp [hs']) z q
          · exact (wf.ck _ (List.mem_of_getElem? hrow)).2 z (by rw [e']; simp [q])
        have lk : kvs3.length = ks3.length := by have := congrArg List.length hk3; simpa using this
        refine ⟨_, rfl, _, rfl, f, _, rfl, DPut.k (k := .inl g) hf3 (by rw [sizeLine_eq]; omega), ⟨_, rfl⟩, k3.mutNew hf, ?_⟩
        rw [← List.append_assoc]; exact DS.put hk3 hn3 hm3
      · rintro σ' H3 ⟨⟨o2, rfl⟩, k3, q3⟩
        refine ⟨⟨_, _, rfl⟩, k3, ?_⟩
        rw [List.flatMap_append, List.flatMap_singleton, er]
        exact q3
    · rintro σ H1 ⟨⟨o1, o2, rfl⟩, k1, kvs, ks, hf1, hk1, hn1, hm1⟩
      have l1 : ks.length ≤ 63 := short_of hn1 (n := 63) fun z hz => all63 ss (fun _ h => h) z ((hm1 z).mp hz)
      refine ⟨_, rfl, f, kvs, ks, rfl, .inl hf1, hk1, by omega, fun ys q hp1 hp2 hq => ⟨q, _, rfl, .inl ⟨SqL.of upd_same, fun t ht => ?_⟩⟩⟩
      refine k _ _ ((k1.trans (Ke.new hq)).trans (Ke.new ht)) ⟨t, rfl, ?_⟩
      rw [upd_same, usort_of hp1 hp2 hn1 hm1]
      rfl
theorem ran_flat {α : Type} (n : Int) (f : Int → List α) (i : Nat) : (((List.range (i + 1)).map Int.ofNat).flatMap f) = ((List.range i).map Int.ofNat).flatMap f ++ f i := by
  rw [List.range_succ, List.map_append, List.flatMap_append]
  simp
omit T in
theorem snoc_tx {H H' : Hp} {D : Addr} {xs : List V} {ws : List V} (k : Tx H H') (h : H D = some (.lst xs)) : Tx H (upd H' D (.lst ws)) := ⟨fun b ys e => by rw [upd_ne (fun z => by subst z; rw [h] at e; cases e)]; exact k.tup b ys e⟩
theorem ok_all_steps : FnOk P w K mg base CX0 1 T.a_all_steps T.d_all_steps P_all_steps (sp_all_steps K) := by
  refine T.F_all_steps.ok sc_all_steps (fun vs H Q E h => ?_) (fun cdv A outer s H vs Q E hr h => ?_)
  · obtain ⟨C, p, o, a, b, c, rfl, _⟩ := h; rfl
  · obtain ⟨C, p, o, a, b, c, rfl, oc, of, wf, es, k⟩ := h
    obtain ⟨dx, vs, vm, vc, l, ds, hp, ⟨z, rfl, hz⟩, _⟩ := of.ex
    obtain ⟨a', b', c', es', ⟨a1, a2⟩, ⟨b1, b2⟩, c1, c2⟩ := wf.sz
    obtain ⟨rfl, rfl, rfl⟩ : a = a' ∧ b = b' ∧ c = c' := by rw [es] at es'; simpa using es'
    rw [es] at hz
    refine ⟨_, (pss_cons (ps_asg (pe_fld (pv 0) rfl) (pg_tup rfl (pgs_cons (pg_name (i := 1) sc_all_steps.nd rfl (Or.inl rfl)) (pgs_cons (pg_name (i := 2) sc_all_steps.nd rfl (Or.inr rfl)) (pgs_cons (pg_name (i := 3) sc_all_steps.nd rfl (Or.inr rfl)) pgs_nil)))))
  (pss_cons (ps_setLc2 (vs1 := [6]) (i := 4) (own := [("slip", 5), ("answer", 6)]) rfl sc_all_steps.nd rfl rfl (sw_true rfl rfl rfl (by decide +kernel)) (pi_range1 rfl T.n_range (pa_cons (pv 1) pa_nil)) (blkOk_by (own := [("slip", 5), ("answer", 6)]) (N := N_all_steps) (sc := defScope s_all_steps) (by decide +kernel)) (by decide) (fun _ _ _ _ _ => (pg_name (i := 5) sc_all_steps.nd rfl (Or.inl rfl))) (fun _ _ _ _ _ => pts_nil) (fun _ _ _ _ _ => (pi_range1 rfl T.n_range (pa_cons (pv 2) pa_nil))) (fun _ _ _ _ _ => (pg_name (i := 6) sc_all_steps.nd rfl (Or.inl rfl))) (fun _ _ _ _ _ => pts_nil) (fun _ _ _ _ _ => (pe_tup (pa_cons (pv 5) (pa_cons (pv 6) pa_nil)))))
  (pss_one (ps_ret (pe_lc2 (vs1 := [8]) (own := [("note", 7), ("mark", 8)]) rfl sc_all_steps.nd (pi_list (pv 4)) (blkOk_by (own := [("note", 7), ("mark", 8)]) (N := N_all_steps) (sc := defScope s_all_steps) (by decide +kernel)) (by decide) (fun _ _ _ _ _ => (pg_name (i := 7) sc_all_steps.nd rfl (Or.inl rfl))) (fun _ _ _ _ _ => pts_nil) (fun _ _ _ _ _ => (pi_range1 rfl T.n_range (pa_cons (pv 3) pa_nil))) (fun _ _ _ _ _ => (pg_name (i := 8) sc_all_steps.nd rfl (Or.inl rfl))) (fun _ _ _ _ _ => pts_nil) (fun _ _ _ _ _ => (pe_op (op_catAK K rfl) (pv 7) (pe_tup (pa_cons (pv 8) pa_nil))))))))), ?_⟩
    refine ⟨_, rfl, p, C, dx, _, _, rfl, hp, oc.c, oc.n1, offF_s _ _ _ _, z, _, rfl, SqT.of hz, rfl, _, _, rfl, _, _, rfl, _, _, rfl, rfl, ?_⟩
    have nl : ∀ (i j : Nat) (x : Int), x ≤ 63 → i < x.toNat → j < 63 → i * 63 + j < 100000 := fun i j x h1 h2 h3 => by omega
    -- notes_here
    refine ⟨_, rfl, a, rfl, by omega, by omega, fun D hD => lw_range (fun i H' => Ke H H' ∧ LL TI H' (.ref D) (((List.range i).map Int.ofNat).flatMap fun s => (ran b).map fun n => [s, n]) ∧ (((List.range i).map Int.ofNat).flatMap fun s => (ran b).map fun n => [s, n]).length = i * b.toNat) ⟨Ke.new hD, ⟨D, [], rfl, upd_same, .nil⟩, by simp⟩ ?_ ?_⟩
    · rintro i H1 hi ⟨k1, ⟨D', ws, eD, hw, pw⟩, ln⟩
      cases eD
      refine ⟨rfl, _, rfl, b, rfl, by omega, by omega, lw_range (fun j H' => Ke H H' ∧ LL TI H' (.ref D) ((((List.range i).map Int.ofNat).flatMap fun s => (ran b).map fun n => [s, n]) ++ ((List.range j).map Int.ofNat).map fun n => [(i : Int), n])) ⟨k1, D, ws, rfl, hw, by simpa using pw⟩ ?_ ?_⟩
      · rintro j H2 hj ⟨k2, D2, ws2, eD, hw2, pw2⟩
        cases eD
        have lw := plen pw2
        refine ⟨rfl, _, rfl, _, rfl, (by show 2 ≤ sizeLine; decide), fun t ht => ⟨ws2, (Ke.new ht).at hw2, ?_, (k2.trans (Ke.new ht)).mutNew hD, D, _, rfl, upd_same, ?_⟩⟩
        · rw [lw, List.length_append, ln, List.length_map, List.length_map, List.length_range, sizeLine_eq]
          have : i * b.toNat ≤ 63 * 63 := Nat.mul_le_mul (by omega) (by omega)
          omega
        · have tx : Tx H2 (upd (upd H2 t (.tup [.int (0 + (i : Nat)), .int (0 + (j : Nat))])) D (.lst (ws2 ++ [.ref t]))) := snoc_tx (Ke.new ht).tx hw2
          rw [List.range_succ, List.map_append, List.map_append, ← List.append_assoc]
          refine papp (pimp (fun v x r => TI.stb _ _ v x tx r) pw2) (.cons ⟨t, rfl, ?_⟩ .nil)
          rw [upd_ne (ne_of_none hw2 ht).symm, upd_same]
          simp
      · rintro H2 ⟨k2, q2⟩
        refine ⟨k2, ?_, ?_⟩
        · rw [ran_flat T b]
          exact q2
        · rw [ran_flat T b, List.length_append, ln, List.length_map, ran, List.length_map, List.length_range, Nat.succ_mul]
    · rintro H1 ⟨k1, ⟨D', ws, eD, hw, pw⟩, ln⟩
      cases eD
      have en : (((List.range a.toNat).map Int.ofNat).flatMap fun s => (ran b).map fun n => [s, n]) = (ran a).flatMap fun s => (ran b).map fun n => [s, n] := rfl
      rw [en] at pw ln
      generalize hN : ((ran a).flatMap fun s => (ran b).map fun n => [s, n]) = notes at pw ln
      have two : ∀ x ∈ notes, x ≠ [] ∧ x.length = 2 := fun x hx => by
        rw [← hN] at hx
        obtain ⟨s', _, hx⟩ := List.mem_flatMap.mp hx
        obtain ⟨n', _, rfl⟩ := List.mem_map.mp hx
        exact ⟨by simp, rfl⟩
      have lnn : notes.length ≤ 63 * 63 := by rw [ln]; exact Nat.mul_le_mul (by omega) (by omega)
      have es : stepsM a b c = notes.flatMap fun x => (ran c).map fun k => x ++ [k] := by unfold stepsM; rw [hN]
      refine ⟨_, rfl, D, rfl, ⟨_, SqL.of hw⟩, fun D2 hD2 => ?_⟩
      refine lw_L (R := TI H1) (fun d H' => Ke H1 H' ∧ (∃ ws', H' D2 = some (.lst ws') ∧ Paired (TI H') ws' (d.flatMap fun x => (ran c).map fun k => x ++ [k])) ∧ (d.flatMap fun x => (ran c).map fun k => x ++ [k]).length = d.length * c.toNat) pw ⟨Ke.new hD2, ⟨[], upd_same, .nil⟩, by simp⟩ (fun d H' p => p.1.at hw) ?_ ?_
      · rintro d x r v H2 e ⟨t0, rfl, ht0⟩ ⟨k2, ⟨ws2, hw2, pw2⟩, l2⟩
        have ht2 := k2.at ht0
        obtain ⟨x1, x2⟩ := two x (by rw [e]; simp)
        have ld : d.length ≤ 63 * 63 := by rw [e] at lnn; simp at lnn; omega
        refine ⟨rfl, _, rfl, c, rfl, by omega, by omega, lw_range (fun j H' => Ke H1 H' ∧ ∃ ws', H' D2 = some (.lst ws') ∧ Paired (TI H') ws' ((d.flatMap fun x => (ran c).map fun k => x ++ [k]) ++ ((List.range j).map Int.ofNat).map fun k => x ++ [k])) ⟨k2, ws2, hw2, by simpa using pw2⟩ ?_ ?_⟩
        · rintro j H3 hj ⟨k3, ws3, hw3, pw3⟩
          have lw := plen pw3
          refine ⟨rfl, _, rfl, _, rfl, (by show 1 ≤ sizeLine; decide), fun u hu0 => ⟨t0, u, _, _, rfl, rfl, SqT.of ((Ke.new hu0).at (k3.at ht0)), SqT.of upd_same, (by rw [List.length_map, x2]; show 3 ≤ sizeLine; decide), fun z => absurd z (by simpa using x1), fun _ z => by simp at z, fun _ _ t ht => ?_⟩⟩
          have k4 : Ke H3 (upd (upd H3 u (.tup [.int (0 + (j : Nat))])) t (.tup (x.map V.int ++ [.int (0 + (j : Nat))]))) := (Ke.new hu0).trans (Ke.new ht)
          refine ⟨ws3, k4.at hw3, ?_, (k3.trans k4).mutNew hD2, _, upd_same, ?_⟩
          · rw [lw, List.length_append, l2, List.length_map, List.length_map, List.length_range, sizeLine_eq]
            have : d.length * c.toNat ≤ 63 * 63 * 63 := Nat.mul_le_mul ld (by omega)
            omega
          · have tx := snoc_tx (ws := ws3 ++ [.ref t]) k4.tx hw3
            rw [List.range_succ, List.map_append, List.map_append, ← List.append_assoc]
            refine papp (pimp (fun v x r => TI.stb _ _ v x tx r) pw3) (.cons ⟨t, rfl, ?_⟩ .nil)
            rw [upd_ne (ne_of (k4.at hw3) upd_same (fun z => nomatch z)).symm, upd_same]
            simp
        · rintro H3 ⟨k3, ws3, hw3, pw3⟩
          refine ⟨k3, ⟨ws3, hw3, ?_⟩, ?_⟩
          · rw [List.flatMap_append, List.flatMap_singleton]
            exact pw3
          · rw [List.flatMap_append, List.flatMap_singleton, List.length_append, l2, List.length_append, List.length_map, ran, List.length_map, List.length_range]
            show _ = (d.length + 1) * c.toNat
            rw [Nat.succ_mul]
      · rintro H2 ⟨k2, ⟨ws2, hw2, pw2⟩, _⟩
        exact k D2 ws2 _ (k1.free hD2) (k1.trans k2) hw2 (by rw [es]; exact pw2)
end
end Fd
set_option Elab.async false
set_option linter.all false
set_option maxRecDepth 100000
set_option maxHeartbeats 4000000
/-! Sorted lists of tuples, of pairs of tuples, of ints. -/
namespace Fd
open PySem PySem.Spec PyProof.Rows L2 PySem.W
def encP (x : List Int × List Int) : PyData := .tuple [tI x.1, tI x.2]
noncomputable def sortT (bs : List (List Int)) : List (List Int) := bs.mergeSort (dataLe false tI)
noncomputable def sortP (bs : List (List Int × List Int)) : List (List Int × List Int) := bs.mergeSort (dataLe false encP)
noncomputable def sortI (bs : List Int) : List Int := bs.mergeSort (dataLe false PyData.int)
theorem le_tI : dataLe false tI = fun p q => decide (p ≤ q) := by
  have h := dataLe_rows (β := List Int) id
  funext p q
  exact congrFun (congrFun h p) q
theorem le_int : dataLe false PyData.int = fun p q => decide (p ≤ q) := dataLe_int (β := Int) id
theorem mem_sortT {bs : List (List Int)} {x : List Int} : x ∈ sortT bs ↔ x ∈ bs := (List.mergeSort_perm bs _).mem_iff
theorem mem_sortP {bs : List (List Int × List Int)} {x : List Int × List Int} : x ∈ sortP bs ↔ x ∈ bs := (List.mergeSort_perm bs _).mem_iff
theorem mem_sortI {bs : List Int} {x : Int} : x ∈ sortI bs ↔ x ∈ bs := (List.mergeSort_perm bs _).mem_iff
theorem len_sortT {bs : List (List Int)} : (sortT bs).length = bs.length := (List.mergeSort_perm bs _).length_eq
theorem len_sortP {bs : List (List Int × List Int)} : (sortP bs).length = bs.length := (List.mergeSort_perm bs _).length_eq
theorem len_sortI {bs : List Int} : (sortI bs).length = bs.length := (List.mergeSort_perm bs _).length_eq
theorem sorted_sortT (bs : List (List Int)) : (sortT bs).Pairwise (· ≤ ·) := by
  unfold sortT
  rw [le_tI]
  have h := List.pairwise_mergeSort (le := fun (p q : List Int) => decide (p ≤ q)) (fun a b c h1 h2 => by
    have h1' : a ≤ b := of_decide_eq_true h1
    have h2' : b ≤ c := of_decide_eq_true h2
    exact decide_eq_true (List.le_trans h1' h2')) (fun a b => by
    rcases List.le_total a b with h | h
    · simp [h]
    · simp [h]) bs
  exact h.imp fun q => of_decide_eq_true q
/-- without doubles the order is strict -/
theorem strict_sortT {bs : List (List Int)} (h : bs.Nodup) : (sortT bs).Pairwise (· < ·) := by
  have n : (sortT bs).Nodup := (List.mergeSort_perm bs _).nodup_iff.mpr h
  refine ((sorted_sortT bs).and n).imp fun {a b} q => ?_
  rcases List.le_iff_lt_or_eq.mp q.1 with z | z
  · exact z
  · exact absurd z q.2
theorem ok_T {bs : List (List Int)} (h : ∀ b ∈ bs, b ≠ []) : SortOk tI bs where
  al := AllAlike.of fun b b' => by
    show alike (.tuple (b.map .int)) (.tuple (b'.map .int)) = true
    rw [alike]; exact alike_ints b b'
  so := .inl fun d hd => by
    obtain ⟨b, hb, rfl⟩ := List.mem_map.mp hd
    match b, h b hb with
    | x :: r, _ => exact ⟨_, _, rfl⟩
  dp := fun b _ => by
    show PyData.depth (.tuple (b.map .int)) ≤ 60
    rw [PyData.depth, depth_ints]; decide
theorem ok_I {bs : List Int} : SortOk PyData.int bs where
  al := AllAlike.of fun b b' => by simp [alike]
  so := Sortable.others fun b => ⟨(fun z => nomatch z), (fun _ z => nomatch z)⟩
  dp := fun b _ => by simp [PyData.depth]
theorem ok_P {bs : List (List Int × List Int)} : SortOk encP bs where
  al := AllAlike.of fun b b' => by
    show alike (.tuple [.tuple (b.1.map .int), .tuple (b.2.map .int)]) (.tuple [.tuple (b'.1.map .int), .tuple (b'.2.map .int)]) = true
    rw [alike, alikeAll, alikeAll, alike, alike, alike_ints, alike_ints]
    simp [alikeAll]
  so := Sortable.tuples fun b => ⟨_, _, rfl⟩
  dp := fun b _ => by
    show PyData.depth (.tuple [.tuple (b.1.map .int), .tuple (b.2.map .int)]) ≤ 60
    simp [PyData.depth, PyData.depthAll, depth_ints]
end Fd
set_option Elab.async false
set_option linter.all false
set_option maxRecDepth 100000
set_option maxHeartbeats 4000000
/-! sorted of a dict with tuple keys; what is never called; min of data; repr of data. -/
namespace Fd
open PySem PySem.Spec PyProof.Rows L2 PySem.W
section
variable {X : Cx}
/-- sorted(d), the keys tuples of ints -/
def rSortDT : List V → Hp → VK → Prop := fun xs H Q => ∃ (a : Addr) (kvs : List (List Key × V)) (ks : List (List Int)), xs = [.ref a] ∧ Rd H a (.dT kvs) ∧ kvs.map (·.1) = ks.map (fun k => k.map Sum.inl) ∧ (∀ k ∈ ks, k ≠ []) ∧
  ∀ p out, H p = none → Paired (TI H) out (sortT ks) → Q (.ref p) (upd H p (.lst out))
theorem isKeys_TI {H : Hp} : ∀ {kvs : List (List Key × V)} {ks : List (List Int)} {bs : List Addr}, IsKeys H kvs bs → kvs.map (·.1) = ks.map (fun k => k.map Sum.inl) → Paired (TI H) (bs.map V.ref) ks
  | [], [], _, .nil, _ => .nil
  | [], _ :: _, _, _, e => by simp at e
  | _ :: _, [], _, _, e => by simp at e
  | p :: kvs, k :: ks, _, .cons h t, e => by
    simp only [List.map_cons, List.cons.injEq] at e
    refine .cons ⟨_, rfl, ?_⟩ (isKeys_TI t e.2)
    rw [h, e.1, List.map_map]
    rfl
theorem cr_sortedDT {k : Nat} (hcalm : X.calm = true) (hr : Room k X.A) : CallR X (.builtin "sorted") rSortDT := by
  intro pins s σ H xs us Q I r h
  obtain ⟨d, kvs, nk, rfl, hd, ek, hne, q⟩ := h
  obtain ⟨u, rfl, rx⟩ := r.one
  cases rx
  obtain ⟨z, hs, ks, pr, o, es, ep, ho, hx, hdt, he, hn⟩ := (show ObjOk X.prog X.w H s.heap d (.dT kvs) from hd.ok I.hok)
  have l1 : es.size = ks.length := size_of_entries he
  have l2 : kvs.length = ks.length := Paired.length pr
  have l3 : kvs.length = nk.length := by have := congrArg List.length ek; simpa using this
  refine Calls.call_function_entry PyProof.Rows.kind_sorted PyProof.Rows.plain_sorted PyProof.Rows.entry_sorted (PyProof.Rows.args_sorted1 _) ?_
  unfold Builtin.«sorted»
  refine wpAny_bind (m := checkCount "sorted" 1 1 _) (wpAny_pure ?_)
  refine wpAny_bind (kdu_collect (A := X.A.in1) (kdl_raw hs hx hdt) (I.ok.hd hcalm) ho (by omega) fun h' tk acc hk it => ?_)
  have eb : acc.toList = (ks.map fun x => x.2.1).map Value.ref := by
    have hl : acc.toList.length = ks.length := by rw [Array.length_toList, it.1]; exact l1
    apply List.ext_getElem?
    intro j
    rw [List.map_map, List.getElem?_map]
    cases hj : acc.toList[j]? with
    | none =>
      have h1 := List.getElem?_eq_none_iff.mp hj
      rw [List.getElem?_eq_none (by omega)]
      all_goals rfl
    | some v =>
      obtain ⟨en, hen, hv⟩ := it.2 j v (by rw [← Array.getElem?_toList]; exact hj)
      have qe := entry_at he j
      rw [hen] at qe
      cases hb : ks[j]? with
      | none =>
        rw [hb] at qe
        exact nomatch (show some en = none from qe)
      | some b =>
        rw [hb] at qe
        have e2 : en = entryOfKey (tupleKind (mixKind X.prog X.w)) b := Option.some.inj qe
        rw [hv, e2]
        all_goals rfl
  have rv : Vals ((ks.map fun x => x.2.1).map V.ref) acc.toList := by rw [eb]; exact vals_refs _
  have pt : Paired (TI H) ((ks.map fun x => x.2.1).map V.ref) nk := isKeys_TI (isKeys_of pr) ek
  have hal : acc.toList.length = nk.length := by rw [← rv.length, plen pt]
  have hL : acc.toList.length ≤ sizeLine := by omega
  have I1 : Inv X pins σ H { s with heap := h', toks := tk } := I.kept hk
  refine wpAny_bind (wpAny_newList ?_ hL)
  have hoL : (h'.push (seqObj "list" acc.toList.toArray 0)).get? h'.objs.size = some (seqObj "list" acc.toList.toArray 0) := Heap.get?_push_size _ rfl
  show wpAny _ _ _ _ _ { s with heap := h'.push (seqObj "list" acc.toList.toArray 0), toks := tk }
  have ok := ok_T hne
  have E := each_of rv pt
  have old : ∀ {b : Addr} {ob : Obj}, h'.get? b = some ob → (sortingHeap (h'.push (seqObj "list" acc.toList.toArray 0)) h'.objs.size acc.toList).get? b = some ob := fun {b ob} e =>
    sortingHeap_old (Nat.ne_of_lt (Heap.lt_size e)) (Heap.get?_push_of_some _ e)
  have er : EachIs (fun v b => ∃ as, Reads (sortingHeap (h'.push (seqObj "list" acc.toList.toArray 0)) h'.objs.size acc.toList) v (tI b) as) acc.toList nk := E.mono fun u b ⟨v, r1, r2⟩ => by
    obtain ⟨as, r⟩ := Dp.reads I1 (tI b) v u (TI.enc X.K H v b r2) r1
    exact ⟨as, PyProof.Rows.Reads.keeps (fun _ _ => old) r⟩
  have hu : ∀ b, b ∈ nk → X.A.in1.in1.units + (tI b).depth < cLine := fun b hb => by
    have h1 := ok.dp b hb
    have h2 := hr.un
    show X.A.units + 2 + _ < _
    omega
  refine wpAny_bind (wpAny_holding (wpAny_call_entry PyProof.Rows.slot_list_sort ⟨_, hoL, rfl⟩ PyProof.Rows.entry_list_sort
    (list_sort_vals (s := { s with heap := h'.push (seqObj "list" acc.toList.toArray 0), toks := tk }) hoL
      (SortsAt.data (s := { s with heap := sortingHeap (h'.push (seqObj "list" acc.toList.toArray 0)) h'.objs.size acc.toList, toks := tk }) (each_map (R := fun v d => ∃ as, Reads (sortingHeap (h'.push (seqObj "list" acc.toList.toArray 0)) h'.objs.size acc.toList) v d as) tI er) ok.al ok.so (bound_map hu)) hL ⟨_, rfl, ?_⟩) (PyProof.Rows.args_list_sort _)))
  have eo := sortVals_data (R := fun u b => ∃ v, RelV v u ∧ TI H v b) false E er ok.al
  generalize hout : sortVals _ false acc.toList acc.toList = out at eo ⊢
  obtain ⟨ws, w1, w2⟩ := each_back eo
  obtain ⟨e', he'⟩ := PyProof.Rows.sortedHeap_at (vs := acc.toList) (out := out.toArray) hoL
  have hlen : ws.length ≤ sizeLine := by
    rw [plen w2]
    have := len_sortT (bs := nk)
    unfold sortT at this
    omega
  refine wpAny_pure ⟨_, rfl, .ref h'.objs.size, upd H h'.objs.size (.lst ws), I1.laid (t' := tk) (fun b u e => ?_) (Nat.le_refl _)
    (show ObjOk X.prog X.w _ _ _ (.lst ws) from ⟨hlen, out, e', w1, he'⟩), rfl, q _ ws (I1.hok.fresh (Nat.le_refl _)) w2⟩
  have hb : b < h'.objs.size := Heap.lt_size e
  rw [PyProof.Rows.sortedHeap_old (Nat.ne_of_lt hb) (by rw [size_push']; exact Nat.lt_succ_of_lt hb)]
  exact Heap.get?_push_of_some _ e
/-- a tuple of targets within a comprehension -/
theorem pg_tupK (K : Frag) (hK : X.K = K) {es : List Expr} {k : Nat} {pos : Pos} {t : TGs} {n : Nat} (hc : X.calm = true) (h : PGs X es t)
    (hn : (assignEach es X.env).length = n := by rfl) (hst : (assignEach es X.env).findIdx? (·.1) = none := by rfl) : PG X (.Tuple es k pos) (gTup K n t) := by
  rw [← hK]; exact pg_tup hc h hn hst
/-- a built-in's method within a comprehension -/
theorem pe_bmK (K : Frag) (hK : X.K = K) {name : Str} {r : V → List V → Hp → VK → Prop} {o e : Expr} {es : List Expr} {apos cpos : Pos} {to : TE} {t : TA} {T : String} (h : PE X (.Call (.Attribute o name apos) (e :: es) [] cpos) (tBM X.K T r to t)) :
    PE X (.Call (.Attribute o name apos) (e :: es) [] cpos) (tBM K T r to t) := by rw [← hK]; exact h
theorem op_in_seqK (K : Frag) (h : X.K = K) : OpR X (compareOp .In) (rIn K false) := by rw [← h]; exact op_in_seq
theorem op_notIn_seqK (K : Frag) (h : X.K = K) : OpR X (compareOp .NotIn) (rIn K true) := by rw [← h]; exact op_notIn_seq
theorem sl_tupAK (K : Frag) (h : X.K = K) : SlR X (rSlA K) := by rw [← h]; exact sl_tupA
theorem tuple_ofK (K : Frag) (h : X.K = K) : CallR X (.type "tuple") (fun xs H Q => ∃ p ys, xs = [.ref p] ∧ ((SqL K H p ys ∧ ∀ l, H l = none → Q (.ref l) (upd H l (.tup ys))) ∨ (SqT K H p ys ∧ Q (.ref p) H))) := by rw [← h]; exact call_tuple_of
/-- a call that is never reached -/
theorem cr_never (f : Value) : CallR X f (fun _ _ _ => False) := fun _ _ _ _ _ _ _ _ _ h => h.elim
end
end Fd
set_option Elab.async false
set_option linter.all false
set_option maxRecDepth 100000
set_option maxHeartbeats 4000000
/-! What the chain computes, in plain lists. -/
namespace Fd
def slipsIn (row : List (List Int)) (s : Int) : List (List Int) := row.filter fun m => decide (m[0]? = some s)
theorem slipsIn_snoc (row : List (List Int)) (m : List Int) (s0 s : Int) (h : m[0]? = some s0) : slipsIn (row ++ [m]) s = if s0 = s then slipsIn row s ++ [m] else slipsIn row s := by
  unfold slipsIn
  rw [List.filter_append]
  by_cases c : s0 = s
  · rw [if_pos c]; simp [h, c]
  · rw [if_neg c]; simp [h, c]
/-- the joint moves of two standings -/
def jointM (o1 o2 : Ofc) (q1 q2 : Int) : List (List Int × List Int) := (at0 o1.mv q1).flatMap fun m => (slipsIn (at0 o2.mv q2) (m.getD 1 0)).map fun m' =>
  ([m.getD 0 0, m.getD 1 0 * o2.sz.getD 1 0 + m'.getD 1 0, m.getD 2 0 * o2.sz.getD 2 0 + m'.getD 2 0], [m.getD 3 0, m'.getD 3 0])
def jointL (o1 o2 : Ofc) (q1 q2 : Int) : List Int := (at0 o1.cl q1).flatMap fun k => (at0 o2.cl q2).map fun k' => k * o2.sz.getD 2 0 + k'

/-- the chain while it is made: the pairs met, the rows, the closings -/
structure ChS where
  ps : List (List Int)
  mv : List (List (List Int))
  cl : List (List Int)
def pairsC (ps : List (List Int)) (js : List (List Int × List Int)) : List (List Int) := js.foldl (fun ps x => addk ps x.2) ps
noncomputable def rowC (ps : List (List Int)) (js : List (List Int × List Int)) : List (List Int) := js.map fun x => x.1 ++ [((ps.idxOf x.2 : Nat) : Int)]
noncomputable def jsC (o1 o2 : Ofc) (q : List Int) : List (List Int × List Int) := sortP (jointM o1 o2 (q.getD 0 0) (q.getD 1 0))
noncomputable def stepC (o1 o2 : Ofc) (S : ChS) : ChS :=
  let q := S.ps.getD S.mv.length []
  let ps := pairsC S.ps (jsC o1 o2 q)
  ⟨ps, S.mv ++ [sortT (rowC ps (jsC o1 o2 q))], S.cl ++ [sortI (jointL o1 o2 (q.getD 0 0) (q.getD 1 0))]⟩
noncomputable def runC (o1 o2 : Ofc) : Nat → ChS → ChS
  | 0, S => S
  | n + 1, S => if S.mv.length < S.ps.length then runC o1 o2 n (stepC o1 o2 S) else S
def S0 : ChS := ⟨[[0, 0]], [], []⟩
noncomputable def endC (o1 o2 : Ofc) : ChS := runC o1 o2 (o1.mv.length * o2.mv.length) S0
noncomputable def chainM (o1 o2 : Ofc) : Ofc := ⟨[o1.sz.getD 0 0, o1.sz.getD 1 0 * o2.sz.getD 1 0, o1.sz.getD 2 0 * o2.sz.getD 2 0], (endC o1 o2).mv, (endC o1 o2).cl⟩
/-- goals within -/
def GoalsOk (o : Ofc) : Prop := ∀ r ∈ o.mv, ∀ m ∈ r, 0 ≤ m.getD 3 0 ∧ m.getD 3 0 < o.mv.length
def PairOk (o1 o2 : Ofc) (q : List Int) : Prop := ∃ a b, q = [a, b] ∧ (0 ≤ a ∧ a < o1.mv.length) ∧ 0 ≤ b ∧ b < o2.mv.length
theorem at0_mem {α : Type} {xs : List (List α)} {i : Int} {x : α} (h : x ∈ at0 xs i) : ∃ r ∈ xs, x ∈ r := by
  unfold at0 at h
  cases e : xs[i.toNat]? with
  | none => rw [e] at h; cases h
  | some r => rw [e] at h; exact ⟨r, List.mem_of_getElem? e, h⟩
theorem jsC_ok {o1 o2 : Ofc} (g1 : GoalsOk o1) (g2 : GoalsOk o2) {q : List Int} : ∀ x ∈ jsC o1 o2 q, PairOk o1 o2 x.2 := fun x hx => by
  obtain ⟨m, hm, hx⟩ := List.mem_flatMap.mp (mem_sortP.mp hx)
  obtain ⟨m', hm', rfl⟩ := List.mem_map.mp hx
  obtain ⟨r, hr, hm⟩ := at0_mem hm
  obtain ⟨r', hr', hm'⟩ := at0_mem (List.mem_filter.mp hm').1
  exact ⟨_, _, rfl, g1 r hr m hm, g2 r' hr' m' hm'⟩
theorem pairsC_append (ps : List (List Int)) (a b : List (List Int × List Int)) : pairsC ps (a ++ b) = pairsC (pairsC ps a) b := List.foldl_append
theorem pairsC_pre : ∀ (b : List (List Int × List Int)) (ps : List (List Int)), ∃ r, pairsC ps b = ps ++ r
  | [], ps => ⟨[], by simp [pairsC]⟩
  | x :: b, ps => by
    obtain ⟨r, e⟩ := pairsC_pre b (addk ps x.2)
    refine ⟨(if x.2 ∈ ps then [] else [x.2]) ++ r, ?_⟩
    show pairsC (addk ps x.2) b = _
    rw [e]
    unfold addk
    split
    · simp
    · simp
theorem mem_pairsC : ∀ {b : List (List Int × List Int)} {ps : List (List Int)} {g : List Int}, g ∈ pairsC ps b ↔ g ∈ ps ∨ ∃ x ∈ b, x.2 = g
  | [], ps, g => by simp [pairsC]
  | x :: b, ps, g => by
    show g ∈ pairsC (addk ps x.2) b ↔ _
    rw [mem_pairsC, mem_addk]
    constructor
    · rintro ((h | h) | ⟨y, hy, e⟩)
      · exact .inl h
      · exact .inr ⟨x, by simp, h.symm⟩
      · exact .inr ⟨y, by simp [hy], e⟩
    · rintro (h | ⟨y, hy, e⟩)
      · exact .inl (.inl h)
      · rcases List.mem_cons.mp hy with z | z
        · exact .inl (.inr (by rw [← e, z]))
        · exact .inr ⟨y, z, e⟩
theorem nodup_pairsC : ∀ {b : List (List Int × List Int)} {ps : List (List Int)}, ps.Nodup → (pairsC ps b).Nodup
  | [], _, h => h
  | x :: b, ps, h => nodup_pairsC (b := b) (addk_nodup h)
theorem idx_pre {ps : List (List Int)} {b : List (List Int × List Int)} {g : List Int} (h : g ∈ ps) : (pairsC ps b).idxOf g = ps.idxOf g := by
  obtain ⟨r, e⟩ := pairsC_pre b ps
  rw [e, List.idxOf_append, if_pos h]
/-- what holds of the chain while it is made -/
structure ChOk (o1 o2 : Ofc) (S : ChS) : Prop where
  nd : S.ps.Nodup
  ok : ∀ q ∈ S.ps, PairOk o1 o2 q
  le : S.mv.length ≤ S.ps.length
  cl : S.cl.length = S.mv.length
  rw : ∀ r ∈ S.mv, r.length < 1000000 ∧ ∀ m ∈ r, ∃ q1 q2 x, x ∈ jointM o1 o2 q1 q2 ∧ x.2 ∈ S.ps ∧ m = x.1 ++ [((S.ps.idxOf x.2 : Nat) : Int)]
  ck : ∀ r ∈ S.cl, r.length < 1000000 ∧ ∀ k ∈ r, ∃ q1 q2, k ∈ jointL o1 o2 q1 q2
theorem jointM_three {o1 o2 : Ofc} {q1 q2 : Int} {x : List Int × List Int} (hx : x ∈ jointM o1 o2 q1 q2) : x.1.length = 3 := by
  obtain ⟨m, _, hx⟩ := List.mem_flatMap.mp hx
  obtain ⟨m', _, rfl⟩ := List.mem_map.mp hx
  rfl
theorem ChOk.four {o1 o2 : Ofc} {S : ChS} (x : ChOk o1 o2 S) : ∀ r ∈ S.mv, r.length < 1000000 ∧ ∀ m ∈ r, m.length = 4 := fun r hr => ⟨(x.rw r hr).1, fun m hm => by
  obtain ⟨q1, q2, y, hy, _, rfl⟩ := (x.rw r hr).2 m hm
  rw [List.length_append, jointM_three hy]; rfl⟩
theorem pairs_le {o1 o2 : Ofc} {ps : List (List Int)} (nd : ps.Nodup) (ok : ∀ q ∈ ps, PairOk o1 o2 q) : ps.length ≤ o1.mv.length * o2.mv.length := by
  have h := len_sub (b := (ran o1.mv.length).flatMap fun a => (ran o2.mv.length).map fun b => [a, b]) nd fun q hq => by
    obtain ⟨a, b, rfl, ha, hb⟩ := ok q hq
    exact List.mem_flatMap.mpr ⟨a, mem_ran.mpr ha, List.mem_map.mpr ⟨b, mem_ran.mpr hb, rfl⟩⟩
  refine Nat.le_trans h (Nat.le_of_eq ?_)
  have lr : ∀ n : Nat, (ran n).length = n := fun n => by unfold ran; simp
  rw [List.length_flatMap]
  have : ((ran o1.mv.length).map fun a => ((ran o2.mv.length).map fun b => [a, b]).length) = (ran o1.mv.length).map fun _ => o2.mv.length := by
    apply List.map_congr_left
    intro a _
    rw [List.length_map, lr]
  rw [this, List.map_const', List.sum_replicate_nat, lr]
theorem ChOk.step {o1 o2 : Ofc} (g1 : GoalsOk o1) (g2 : GoalsOk o2) (hs : ∀ q1 q2, (jointM o1 o2 q1 q2).length < 1000000) (hl : ∀ q1 q2, (jointL o1 o2 q1 q2).length < 1000000) {S : ChS} (x : ChOk o1 o2 S) (h : S.mv.length < S.ps.length) : ChOk o1 o2 (stepC o1 o2 S) where
  nd := nodup_pairsC x.nd
  ok := fun q hq => by
    rcases mem_pairsC.mp hq with z | ⟨y, hy, rfl⟩
    · exact x.ok q z
    · exact jsC_ok g1 g2 y hy
  le := by
    obtain ⟨r, e⟩ := pairsC_pre (jsC o1 o2 (S.ps.getD S.mv.length [])) S.ps
    show (S.mv ++ [_]).length ≤ (pairsC S.ps _).length
    rw [e]; simp; omega
  cl := by show (S.cl ++ [_]).length = (S.mv ++ [_]).length; simp [x.cl]
  rw := fun r hr => by
    rcases List.mem_append.mp hr with z | z
    · refine ⟨(x.rw r z).1, fun m hm => ?_⟩
      obtain ⟨q1, q2, y, hy, hp, e⟩ := (x.rw r z).2 m hm
      exact ⟨q1, q2, y, hy, mem_pairsC.mpr (.inl hp), by rw [e]; show _ = y.1 ++ [(((pairsC S.ps _).idxOf y.2 : Nat) : Int)]; rw [idx_pre hp]⟩
    · rw [List.mem_singleton.mp z]
      refine ⟨by rw [len_sortT]; unfold rowC jsC; rw [List.length_map, len_sortP]; exact hs _ _, fun m hm => ?_⟩
      obtain ⟨y, hy, rfl⟩ := List.mem_map.mp (mem_sortT.mp hm)
      exact ⟨_, _, y, mem_sortP.mp hy, mem_pairsC.mpr (.inr ⟨y, hy, rfl⟩), rfl⟩
  ck := fun r hr => by
    rcases List.mem_append.mp hr with z | z
    · exact x.ck r z
    · rw [List.mem_singleton.mp z]
      exact ⟨by rw [len_sortI]; exact hl _ _, fun k hk => ⟨_, _, mem_sortI.mp hk⟩⟩
theorem ChOk.init {o1 o2 : Ofc} (h1 : 1 ≤ o1.mv.length) (h2 : 1 ≤ o2.mv.length) : ChOk o1 o2 S0 := ⟨by simp [S0], fun q hq => by
  have e : q = [0, 0] := by simpa [S0] using hq
  exact ⟨0, 0, e, by omega, by omega⟩, by simp [S0], rfl, (fun r hr => nomatch hr), (fun r hr => nomatch hr)⟩
theorem runC_done {o1 o2 : Ofc} {S : ChS} (h : ¬ S.mv.length < S.ps.length) : ∀ n, runC o1 o2 n S = S
  | 0 => rfl
  | n + 1 => by unfold runC; rw [if_neg h]
theorem runC_step {o1 o2 : Ofc} {S : ChS} (h : S.mv.length < S.ps.length) {n : Nat} (hn : 0 < n) : runC o1 o2 n S = runC o1 o2 (n - 1) (stepC o1 o2 S) := by
  match n, hn with
  | n + 1, _ =>
    show (if _ then _ else _) = _
    rw [if_pos h]; rfl
end Fd
set_option Elab.async false
set_option linter.all false
set_option maxRecDepth 100000
set_option maxHeartbeats 4000000
namespace Fd
open PySem PySem.Spec PyProof.Rows L2
/-- a dict of numbers of pairs -/
def NumAt (H : Hp) (d : Addr) (ps : List (List Int)) : Prop := ∃ kvs, H d = some (.dT kvs) ∧ kvs.length = ps.length ∧ ∀ g : List Int, valV kvs (keyI g) = if g ∈ ps then some (.int (ps.idxOf g : Nat)) else none
theorem NumAt.ke {H H' : Hp} {d : Addr} {ps : List (List Int)} (x : NumAt H d ps) (k : Ke H H') : NumAt H' d ps := by
  obtain ⟨kvs, h, l, f⟩ := x
  exact ⟨kvs, k.at h, l, f⟩
theorem num_len {kvs : List (List Key × V)} {ps : List (List Int)} {g0 : List Int} {v : V} (h : g0 ∉ ps) (l : kvs.length = ps.length) (f : ∀ g : List Int, valV kvs (keyI g) = if g ∈ ps then some (.int (ps.idxOf g : Nat)) else none) : (putK kvs (keyI g0) v).length = (ps ++ [g0]).length := by
  rw [putK_new v (by rw [f, if_neg h]), List.length_append, List.length_append, l]; rfl
theorem num_put {kvs : List (List Key × V)} {ps : List (List Int)} {g0 : List Int} (h : g0 ∉ ps) (f : ∀ g : List Int, valV kvs (keyI g) = if g ∈ ps then some (.int (ps.idxOf g : Nat)) else none) (g : List Int) :
    valV (putK kvs (keyI g0) (.int ps.length)) (keyI g) = if g ∈ ps ++ [g0] then some (.int ((ps ++ [g0]).idxOf g : Nat)) else none := by
  rw [valV_put]
  by_cases c : keyI g = keyI g0
  · rw [if_pos c]
    have := keyI_inj c
    subst this
    rw [if_pos (by simp), List.idxOf_append, if_neg h]
    simp
  · rw [if_neg c, f]
    by_cases m : g ∈ ps
    · rw [if_pos m, if_pos (by simp [m]), List.idxOf_append, if_pos m]
    · have n : g ∉ ps ++ [g0] := fun z => by
        rcases List.mem_append.mp z with q | q
        · exact m q
        · exact c (by rw [List.mem_singleton.mp q])
      rw [if_neg m, if_neg n]
/-- few moves in a row -/
def Small (o : Ofc) : Prop := (∀ r ∈ o.mv, r.length ≤ 900) ∧ ∀ r ∈ o.cl, r.length ≤ 900
theorem at0_len {α : Type} {xs : List (List α)} {n : Nat} (h : ∀ r ∈ xs, r.length ≤ n) (i : Int) : (at0 xs i).length ≤ n := by
  unfold at0
  cases e : xs[i.toNat]? with
  | none => exact Nat.zero_le _
  | some r => exact h r (List.mem_of_getElem? e)
theorem flat_len {α β : Type} {f : α → List β} {n : Nat} (h : ∀ a, (f a).length ≤ n) : ∀ l : List α, (l.flatMap f).length ≤ l.length * n
  | [] => by simp
  | a :: l => by
    have := flat_len h l
    have := h a
    rw [List.flatMap_cons, List.length_append, List.length_cons, Nat.succ_mul]; omega
theorem Wf.goals {o : Ofc} (w : Wf o) : GoalsOk o := fun r hr m hm => by
  obtain ⟨a, b, c, s, n, k, g, _, rfl, _, _, _, h1, h2⟩ := (w.mv r hr).2 m hm
  show 0 ≤ g ∧ g < _
  omega
theorem Ke.then {S : Addr → Prop} {H H1 H2 : Hp} (x : Ke H H1) (y : Ks S H1 H2) (n : ∀ a, S a → H a = none) : Ke H H2 :=
  ⟨fun a o _ h => y.keep a o (fun z => by rw [n a z] at h; cases h) (x.at h), fun a xs h => y.tup a xs (x.tup a xs h), fun a h => y.there a (x.there a h)⟩
end Fd
set_option Elab.async false
set_option linter.all false
set_option maxRecDepth 100000
set_option maxHeartbeats 4000000
namespace Fd
open PySem PySem.Spec PyProof.Rows L2
theorem p629 : (0 : Int) < 2147483629 := by decide
theorem p647 : (0 : Int) < 2147483647 := by decide
theorem p399 : (0 : Int) < 2147483399 := by decide
abbrev hand5 (ca : Addr) (i b s c : Int) : List V := [.ref ca, .int i, .int b, .int s, .int c]
/-- the drawing hand at hd, its numbers at ca -/
def HandAt (H : Hp) (hd ca : Addr) : Prop := ∃ (cells : List Int) (i b s c : Int), H hd = some (.lst (hand5 ca i b s c)) ∧ H ca = some (.lst (cells.map V.int)) ∧ 0 ≤ i
theorem HandAt.ne {H : Hp} {hd ca : Addr} (x : HandAt H hd ca) : ca ≠ hd := by
  obtain ⟨cells, i, b, s, c, h1, h2, _⟩ := x
  intro e
  rw [e, h1] at h2
  injection h2 with h2
  injection h2 with h2
  cases cells with
  | nil => cases h2
  | cons y r => injection h2 with h2; cases h2
theorem HandAt.ke {H H' : Hp} {hd ca : Addr} (x : HandAt H hd ca) (k : Ke H H') : HandAt H' hd ca := by
  obtain ⟨cells, i, b, s, c, h1, h2, h3⟩ := x
  exact ⟨cells, i, b, s, c, k.at h1, k.at h2, h3⟩
theorem HandAt.mut {H : Hp} {hd ca a : Addr} {o : HO} (x : HandAt H hd ca) (n1 : a ≠ hd) (n2 : a ≠ ca) : HandAt (upd H a o) hd ca := by
  obtain ⟨cells, i, b, s, c, h1, h2, h3⟩ := x
  exact ⟨cells, i, b, s, c, by rw [upd_ne n1.symm]; exact h1, by rw [upd_ne n2.symm]; exact h2, h3⟩
theorem HandAt.there {H : Hp} {hd ca : Addr} (x : HandAt H hd ca) : H hd ≠ none ∧ H ca ≠ none := by
  obtain ⟨cells, i, b, s, c, h1, h2, h3⟩ := x
  rw [h1, h2]; simp
theorem HandAt.tx {H : Hp} {hd ca : Addr} (x : HandAt H hd ca) : Tx H (Hd (fun a => a = hd) H) := by
  obtain ⟨cells, i, b, s, c, h1, _⟩ := x
  exact ⟨fun a xs h => Hd.get (fun e => by rw [e, h1] at h; cases h) h⟩
theorem HandAt.ks {S : Addr → Prop} {H H' : Hp} {hd ca : Addr} (x : HandAt H hd ca) (k : Ks S H H') (n1 : ¬ S hd) (n2 : ¬ S ca) : HandAt H' hd ca := by
  obtain ⟨cells, i, b, s, c, h1, h2, h3⟩ := x
  exact ⟨cells, i, b, s, c, k.keep _ _ n1 h1, k.keep _ _ n2 h2, h3⟩
def sp_draw : Sp := fun xs H Q _ => ∃ hd ca many, xs = [.ref hd, .int many] ∧ HandAt H hd ca ∧ (1 ≤ many ∧ many ≤ 1000) ∧ ∀ r H', 0 ≤ r → r < many → Ks (fun a => a = hd) H H' → HandAt H' hd ca → Q (.int r) H'
def sp_hand (K : PySem.W.Frag) : Sp := fun xs H Q _ => ∃ (a : Addr) (ns : List Int), xs = [.ref a] ∧ SqL K H a (ns.map V.int) ∧ ns.length ≤ 63 ∧ ∀ hd ca H', H hd = none → H ca = none → Ke H H' → HandAt H' hd ca → Q (.ref hd) H'
def sp_sizes : Sp := fun xs H Q _ => ∃ hd ca most, xs = [.ref hd, .int most] ∧ HandAt H hd ca ∧ (1 ≤ most ∧ most ≤ 1000) ∧ ∀ v a b c H', (1 ≤ a ∧ a ≤ most) → (1 ≤ b ∧ b ≤ most) → (1 ≤ c ∧ c ≤ most) → Ks (fun a => a = hd) H H' → HandAt H' hd ca → TI H' v [a, b, c] → Q v H'
section
variable {P : Program} {w : World} {K : PySem.W.Frag} {mg : Str → Option Value} {base : Heap} (T : Txt K mg)
include T
theorem ok_l_draw : FnOk P w K mg base CX0 1 T.a_l_draw T.d_l_draw P_l_draw sp_draw := by
  refine T.F_l_draw.ok sc_l_draw (fun vs H Q E h => ?_) (fun cdv A outer s H vs Q E hr h => ?_)
  · obtain ⟨hd, ca, many, rfl, _⟩ := h; rfl
  · obtain ⟨hd, ca, many, rfl, hA, hm, k⟩ := h
    have hne := hA.ne
    obtain ⟨cells, i, b, s0, c, hh, hca, hi⟩ := hA
    refine ⟨_, (pss_cons (ps_if (PW.pt (pw_and (pt_cmpR op_eq (pe_ix ix_list (pv 0) pe_int (fun _ _ => rfl)) pe_int (nomark _)) (pw_and1 (pt_cmpR op_lt (pe_ix ix_list (pv 0) pe_int (fun _ _ => rfl)) (pe_callB call_len (by rfl) T.n_len (by decide +kernel) (pa_cons (pe_ix ix_list (pv 0) pe_int (fun _ _ => rfl)) pa_nil)) (nomark _))))) (pss_cons (ps_set (i := 2) sc_l_draw.nd rfl (Or.inl rfl) (pe_ix ix_list (pe_ix ix_list (pv 0) pe_int (fun _ _ => rfl)) (pe_ix ix_list (pv 0) pe_int (fun _ _ => rfl)) (fun _ _ => rfl)))
  (pss_cons (ps_asg (pe_op op_add (pe_ix ix_list (pv 0) pe_int (fun _ _ => rfl)) pe_int) (pg_sub (pv 0) pe_int set_list))
  (pss_cons (ps_asg (pe_op op_mod (pe_callTy call_int1 (by rfl) T.n_int (by decide +kernel) (pa_cons (pe_op op_add (pe_op op_add (pe_op op_mul (pe_ix ix_list (pv 0) pe_int (fun _ _ => rfl)) pe_int) (pv 2)) pe_int) pa_nil)) pe_int) (pg_sub (pv 0) pe_int set_list))
  (pss_one (ps_if (pt_cmpR op_ge (pv 2) (pe_op op_pow pe_int pe_int) (nomark _)) (pss_one (ps_asg (pv 2) (pg_sub (pv 0) pe_int set_list))) pss_nil))))) pss_nil)
  (pss_cons (ps_if (pt_cmpR op_gt (pe_ix ix_list (pv 0) pe_int (fun _ _ => rfl)) pe_int (nomark _)) (pss_cons (ps_set (i := 3) sc_l_draw.nd rfl (Or.inl rfl) (pe_op op_mod (pe_callTy call_int1 (by rfl) T.n_int (by decide +kernel) (pa_cons (pe_ix ix_list (pv 0) pe_int (fun _ _ => rfl)) pa_nil)) (pv 1)))
  (pss_cons (ps_asg (pe_op op_fdiv (pe_ix ix_list (pv 0) pe_int (fun _ _ => rfl)) (pv 1)) (pg_sub (pv 0) pe_int set_list))
  (pss_one (ps_ret (pv 3))))) pss_nil)
  (pss_cons (ps_asg (pe_op op_add (pe_ix ix_list (pv 0) pe_int (fun _ _ => rfl)) pe_int) (pg_sub (pv 0) pe_int set_list))
  (pss_cons (ps_set (i := 4) sc_l_draw.nd rfl (Or.inl rfl) (pe_op op_mod (pe_callTy call_int1 (by rfl) T.n_int (by decide +kernel) (pa_cons (pe_op op_mul (pe_callTy call_int1 (by rfl) T.n_int (by decide +kernel) (pa_cons (pe_op op_add (pe_ix ix_list (pv 0) pe_int (fun _ _ => rfl)) (pe_op op_mul pe_int (pe_ix ix_list (pv 0) pe_int (fun _ _ => rfl)))) pa_nil)) pe_int) pa_nil)) pe_int))
  (pss_cons (ps_set (i := 4) sc_l_draw.nd rfl (Or.inl rfl) (pe_op op_mod (pe_callTy call_int1 (by rfl) T.n_int (by decide +kernel) (pa_cons (pe_op op_mul (pv 4) (pe_op op_add (pe_op op_fdiv (pv 4) pe_int) pe_int)) pa_nil)) pe_int))
  (pss_cons (ps_set (i := 4) sc_l_draw.nd rfl (Or.inl rfl) (pe_op op_mod (pe_callTy call_int1 (by rfl) T.n_int (by decide +kernel) (pa_cons (pe_op op_mul (pv 4) (pe_op op_add (pe_op op_fdiv (pv 4) pe_int) pe_int)) pa_nil)) pe_int))
  (pss_one (ps_ret (pe_op op_mod (pe_callTy call_int1 (by rfl) T.n_int (by decide +kernel) (pa_cons (pe_op op_fdiv (pv 4) pe_int) pa_nil)) (pv 1)))))))))), ?_⟩
    refine ⟨_, rfl, hd, _, 2, _, rfl, rfl, SqL.of hh, rfl, rfl, _, rfl, ?_⟩
    have four : ¬ b = 0 ∨ (b = 0 ∧ ¬ i < cells.length) ∨ (b = 0 ∧ i < cells.length ∧ 10 ^ 18 ≤ cells.getD i.toNat 0) ∨ (b = 0 ∧ i < cells.length ∧ ¬ 10 ^ 18 ≤ cells.getD i.toNat 0) := by
      by_cases h1 : b = 0
      · by_cases h2 : i < cells.length
        · by_cases h3 : 10 ^ 18 ≤ cells.getD i.toNat 0
          · exact .inr (.inr (.inl ⟨h1, h2, h3⟩))
          · exact .inr (.inr (.inr ⟨h1, h2, h3⟩))
        · exact .inr (.inl ⟨h1, h2⟩)
      · exact .inl h1
    have lc : ∀ l : List Int, (l.map V.int).length = l.length := fun l => List.length_map _
    have cell : i < cells.length → atI (cells.map V.int) i = some (.int (cells.getD i.toNat 0)) := fun h => by
      refine atI_nat (i := i.toNat) ?_ (by omega)
      rw [List.getElem?_map, List.getElem?_eq_getElem (by omega), List.getD_eq_getElem?_getD, List.getElem?_eq_getElem (by omega)]; rfl
    have nt : ∀ {H' : Hp} {xs : List V}, H' hd = some (.lst xs) → ∀ ys, H' hd ≠ some (.tup ys) := fun h ys z => by rw [h] at z; cases z
    rcases four with h4 | h4 | h4 | h4
    case' inl =>
      refine ifF (fun z => h4 (by injection z)) ?_
      have F : ∃ (i b s c : Int), Ks (fun a => a = hd) H H ∧ H hd = some (.lst (hand5 ca i b s c)) ∧ H ca = some (.lst (cells.map V.int)) ∧ 0 ≤ i := ⟨i, b, s0, c, .refl, hh, hca, hi⟩
    case' inr.inl =>
      refine ifT (by rw [h4.1]) ⟨_, rfl, hd, _, 1, _, rfl, rfl, SqL.of hh, rfl, _, rfl, hd, _, 0, _, rfl, rfl, SqL.of hh, rfl, .ref ca, _, rfl, .inl ⟨_, SqL.of hca, rfl⟩, _, _, rfl, rfl, _, rfl, ifF (by rw [lc]; exact h4.2) ?_⟩
      have F : ∃ (i b s c : Int), Ks (fun a => a = hd) H H ∧ H hd = some (.lst (hand5 ca i b s c)) ∧ H ca = some (.lst (cells.map V.int)) ∧ 0 ≤ i := ⟨i, b, s0, c, .refl, hh, hca, hi⟩
    case' inr.inr.inl =>
      refine ifT (by rw [h4.1]) ⟨_, rfl, hd, _, 1, _, rfl, rfl, SqL.of hh, rfl, _, rfl, hd, _, 0, _, rfl, rfl, SqL.of hh, rfl, .ref ca, _, rfl, .inl ⟨_, SqL.of hca, rfl⟩, _, _, rfl, rfl, _, rfl, ifT (by rw [lc]; exact h4.2.1) ?_⟩
      refine ⟨_, rfl, hd, _, 0, _, rfl, rfl, SqL.of hh, rfl, _, rfl, hd, _, 1, _, rfl, rfl, SqL.of hh, rfl, ca, _, i, _, rfl, rfl, SqL.of hca, cell h4.2.1, ?_⟩
      refine ⟨_, rfl, hd, _, 1, _, rfl, rfl, SqL.of hh, rfl, _, _, rfl, rfl, _, rfl, hd, _, 1, 1, rfl, rfl, hh, rfl, ?_⟩
      refine ⟨_, rfl, hd, _, 3, _, rfl, rfl, SqL.of upd_same, rfl, _, _, rfl, rfl, .inr ⟨by decide, by decide⟩, _, rfl, _, _, rfl, rfl, _, _, rfl, rfl, .inl ⟨_, rfl, _, _, rfl, rfl, p629, _, rfl, hd, _, 3, 3, rfl, rfl, upd_same, rfl, ?_⟩⟩
      refine ⟨_, rfl, _, _, rfl, rfl, ⟨by decide, by decide, by decide⟩, _, _, rfl, rfl, _, rfl, ifT h4.2.2 ?_⟩
      refine ⟨_, rfl, _, rfl, hd, _, 2, 2, rfl, rfl, upd_same, rfl, ?_⟩
      rw [upd_upd, upd_upd]
      have F : ∃ (i' b' s' c' : Int), Ks (fun a => a = hd) H (upd H hd (.lst (hand5 ca (i + 1) (cells.getD i.toNat 0) ((s0 * 69621 + cells.getD i.toNat 0 + 11) % 2147483629) c))) ∧ (upd H hd (.lst (hand5 ca (i + 1) (cells.getD i.toNat 0) ((s0 * 69621 + cells.getD i.toNat 0 + 11) % 2147483629) c))) hd = some (.lst (hand5 ca i' b' s' c')) ∧ (upd H hd (.lst (hand5 ca (i + 1) (cells.getD i.toNat 0) ((s0 * 69621 + cells.getD i.toNat 0 + 11) % 2147483629) c))) ca = some (.lst (cells.map V.int)) ∧ 0 ≤ i' :=
        ⟨i + 1, cells.getD i.toNat 0, (s0 * 69621 + cells.getD i.toNat 0 + 11) % 2147483629, c, Ks.mut .refl rfl (nt hh), upd_same, by rw [upd_ne hne]; exact hca, by omega⟩
    case' inr.inr.inr =>
      refine ifT (by rw [h4.1]) ⟨_, rfl, hd, _, 1, _, rfl, rfl, SqL.of hh, rfl, _, rfl, hd, _, 0, _, rfl, rfl, SqL.of hh, rfl, .ref ca, _, rfl, .inl ⟨_, SqL.of hca, rfl⟩, _, _, rfl, rfl, _, rfl, ifT (by rw [lc]; exact h4.2.1) ?_⟩
      refine ⟨_, rfl, hd, _, 0, _, rfl, rfl, SqL.of hh, rfl, _, rfl, hd, _, 1, _, rfl, rfl, SqL.of hh, rfl, ca, _, i, _, rfl, rfl, SqL.of hca, cell h4.2.1, ?_⟩
      refine ⟨_, rfl, hd, _, 1, _, rfl, rfl, SqL.of hh, rfl, _, _, rfl, rfl, _, rfl, hd, _, 1, 1, rfl, rfl, hh, rfl, ?_⟩
      refine ⟨_, rfl, hd, _, 3, _, rfl, rfl, SqL.of upd_same, rfl, _, _, rfl, rfl, .inr ⟨by decide, by decide⟩, _, rfl, _, _, rfl, rfl, _, _, rfl, rfl, .inl ⟨_, rfl, _, _, rfl, rfl, p629, _, rfl, hd, _, 3, 3, rfl, rfl, upd_same, rfl, ?_⟩⟩
      refine ⟨_, rfl, _, _, rfl, rfl, ⟨by decide, by decide, by decide⟩, _, _, rfl, rfl, _, rfl, ifF h4.2.2 ?_⟩
      rw [upd_upd]
      have F : ∃ (i' b' s' c' : Int), Ks (fun a => a = hd) H (upd H hd (.lst (hand5 ca (i + 1) b ((s0 * 69621 + cells.getD i.toNat 0 + 11) % 2147483629) c))) ∧ (upd H hd (.lst (hand5 ca (i + 1) b ((s0 * 69621 + cells.getD i.toNat 0 + 11) % 2147483629) c))) hd = some (.lst (hand5 ca i' b' s' c')) ∧ (upd H hd (.lst (hand5 ca (i + 1) b ((s0 * 69621 + cells.getD i.toNat 0 + 11) % 2147483629) c))) ca = some (.lst (cells.map V.int)) ∧ 0 ≤ i' :=
        ⟨i + 1, b, (s0 * 69621 + cells.getD i.toNat 0 + 11) % 2147483629, c, Ks.mut .refl rfl (nt hh), upd_same, by rw [upd_ne hne]; exact hca, by omega⟩
    all_goals
      obtain ⟨i1, b1, s1, c1, kk, hh1, hca1, hi1⟩ := F
      refine ⟨_, rfl, hd, _, 2, _, rfl, rfl, SqL.of hh1, rfl, _, _, rfl, rfl, _, rfl, ?_⟩
      by_cases hb : 0 < b1
      · refine ifT hb ⟨_, rfl, hd, _, 2, _, rfl, rfl, SqL.of hh1, rfl, .inl ⟨_, rfl, _, rfl, _, _, rfl, rfl, (by show 0 < many; omega), ?_⟩⟩
        refine ⟨_, rfl, hd, _, 2, _, rfl, rfl, SqL.of hh1, rfl, _, rfl, _, _, rfl, rfl, ⟨by omega, by omega⟩, _, rfl, hd, _, 2, 2, rfl, rfl, hh1, rfl, ?_⟩
        exact ⟨_, rfl, k _ _ (Int.emod_nonneg _ (by omega)) (Int.emod_lt_of_pos _ (by omega)) (kk.mut rfl (nt hh1)) ⟨cells, i1, b1 / many, s1, c1, upd_same, by rw [upd_ne hne]; exact hca1, hi1⟩⟩
      · refine ifF hb ?_
        refine ⟨_, rfl, hd, _, 4, _, rfl, rfl, SqL.of hh1, rfl, _, _, rfl, rfl, _, rfl, hd, _, 4, 4, rfl, rfl, hh1, rfl, ?_⟩
        refine ⟨_, rfl, hd, _, 3, _, rfl, rfl, SqL.of upd_same, rfl, _, rfl, hd, _, 4, _, rfl, rfl, SqL.of upd_same, rfl, _, _, rfl, rfl, .inl ⟨by decide, by decide⟩, _, _, rfl, rfl, .inl ⟨_, rfl, _, _, rfl, rfl, .inr ⟨by decide, by decide⟩, .inl ⟨_, rfl, _, _, rfl, rfl, p647, ?_⟩⟩⟩
        have e1 := Int.emod_nonneg ((s1 + 7919 * (c1 + 1)) * 48271) (show (2147483647 : Int) ≠ 0 by decide)
        have e2 := Int.emod_lt_of_pos ((s1 + 7919 * (c1 + 1)) * 48271) (show (0 : Int) < 2147483647 by decide)
        generalize ((s1 + 7919 * (c1 + 1)) * 48271) % 2147483647 = n1 at e1 e2
        refine ⟨_, rfl, _, rfl, _, _, rfl, rfl, ⟨by decide, by decide⟩, _, _, rfl, rfl, _, _, rfl, rfl, .inl ⟨by omega, by omega⟩, .inl ⟨_, rfl, _, _, rfl, rfl, p647, ?_⟩⟩
        have e3 := Int.emod_nonneg (n1 * (n1 / 1009 + 69621)) (show (2147483647 : Int) ≠ 0 by decide)
        have e4 := Int.emod_lt_of_pos (n1 * (n1 / 1009 + 69621)) (show (0 : Int) < 2147483647 by decide)
        generalize (n1 * (n1 / 1009 + 69621)) % 2147483647 = n2 at e3 e4
        refine ⟨_, rfl, _, rfl, _, _, rfl, rfl, ⟨by decide, by decide⟩, _, _, rfl, rfl, _, _, rfl, rfl, .inl ⟨by omega, by omega⟩, .inl ⟨_, rfl, _, _, rfl, rfl, p399, ?_⟩⟩
        refine ⟨_, rfl, _, _, rfl, rfl, ⟨by decide, by decide⟩, .inl ⟨_, rfl, _, rfl, _, _, rfl, rfl, (by show 0 < many; omega), ?_⟩⟩
        exact k _ _ (Int.emod_nonneg _ (by omega)) (Int.emod_lt_of_pos _ (by omega)) (kk.mut rfl (nt hh1)) ⟨cells, i1, b1, s1, c1 + 1, upd_same, by rw [upd_ne hne]; exact hca1, hi1⟩
theorem ok_l_hand : FnOk P w K mg base CX0 1 T.a_l_hand T.d_l_hand P_l_hand (sp_hand K) := by
  refine T.F_l_hand.ok sc_l_hand (fun vs H Q E h => ?_) (fun cdv A outer s H vs Q E hr h => ?_)
  · obtain ⟨a, ns, rfl, _⟩ := h; rfl
  · obtain ⟨a, ns, rfl, hs, hl, k⟩ := h
    refine ⟨_, (pss_cons (ps_setLc (i := 1) (own := [("_law_cell", 2)]) rfl sc_l_hand.nd rfl rfl (sw_true rfl rfl rfl (by decide +kernel)) (pi_list (pe_slice sl_list (pv 0) po_none (po_some pe_int))) (blkOk_by (own := [("_law_cell", 2)]) (N := N_l_hand) (sc := defScope s_l_hand) (by decide +kernel)) (fun _ _ _ _ _ => (pg_name (i := 2) sc_l_hand.nd rfl (Or.inl rfl))) (fun _ _ _ _ _ => pts_nil) (fun _ _ _ _ _ => (pe_callB call_abs (by rfl) T.n_abs (by decide +kernel) (pa_cons (pe_callTy call_int1 (by rfl) T.n_int (by decide +kernel) (pa_cons (pv 2) pa_nil)) pa_nil))))
  (pss_one (ps_ret (pe_lst (pa_cons (pv 1) (pa_cons pe_int (pa_cons pe_int (pa_cons (pe_op op_add pe_int (pe_callB call_len (by rfl) T.n_len (by decide +kernel) (pa_cons (pv 1) pa_nil))) (pa_cons pe_int pa_nil))))))))), ?_⟩
    have ec : cutV (ns.map V.int) none (some 63) = ((ns.drop (HT.sIx ns.length 0 none)).take (HT.sIx ns.length ns.length (some 63) - HT.sIx ns.length 0 none)).map V.int := by
      unfold cutV
      rw [List.length_map, ← List.map_drop, ← List.map_take]
    generalize hcs : ((ns.drop (HT.sIx ns.length 0 none)).take (HT.sIx ns.length ns.length (some 63) - HT.sIx ns.length 0 none)) = cs at ec
    have lcs : cs.length ≤ 63 := by
      rw [← hcs]
      refine Nat.le_trans (List.length_take_le _ _) ?_
      have h63 : HT.sIx ns.length ns.length (some 63) ≤ 63 := by
        show (if (63 : Int) < 0 then ((63 : Int) + (ns.length : Int)).toNat else min (63 : Int).toNat ns.length) ≤ 63
        rw [if_neg (by decide)]
        exact Nat.min_le_left _ _
      omega
    refine ⟨_, rfl, 63, rfl, a, _, rfl, hs, fun p hp => ?_⟩
    rw [ec]
    have k0 : Ke H (upd H p (.lst (cs.map V.int))) := Ke.new hp
    refine ⟨p, rfl, ⟨_, SqL.of upd_same⟩, fun D hD => ?_⟩
    have nDp : D ≠ p := fun z => by rw [z, upd_same] at hD; cases hD
    refine lw_L (R := II H) (fun d H' => Ke H H' ∧ H' p = some (.lst (cs.map V.int)) ∧ H' D = some (.lst ((d.map fun x : Int => if x < 0 then -x else x).map V.int))) (pmap_int cs) ⟨k0.trans (Ke.new hD), by rw [upd_ne nDp.symm, upd_same], upd_same⟩ (fun d H' q => q.2.1) ?_ ?_
    · rintro d x r v H1 e rfl ⟨k1, hp1, hD1⟩
      refine ⟨rfl, _, rfl, .inl ⟨_, rfl, _, rfl, _, hD1, ?_, k1.mutNew (k0.free hD), by rw [upd_ne nDp.symm]; exact hp1, ?_⟩⟩
      · rw [List.length_map, List.length_map, sizeLine_eq]
        rw [e] at lcs; simp at lcs; omega
      · rw [upd_same]; simp
    · rintro H1 ⟨k1, hp1, hD1⟩
      refine ⟨_, rfl, _, rfl, .ref D, _, rfl, .inl ⟨_, SqL.of hD1, rfl⟩, _, _, rfl, rfl, (by show 5 ≤ sizeLine; decide), fun hd hhd => ?_⟩
      exact k hd D _ (k1.free hhd) (k0.free hD) (k1.trans (Ke.new hhd)) ⟨_, 0, 0, _, 0, upd_same, (Ke.new hhd).at hD1, by omega⟩
theorem ok_l_sizes : FnOk P w K mg base CX0 2 T.a_l_sizes T.d_l_sizes P_l_sizes sp_sizes := by
  refine T.F_l_sizes.ok sc_l_sizes (fun vs H Q E h => ?_) (fun cdv A outer s H vs Q E hr h => ?_)
  · obtain ⟨hd, ca, most, rfl, _⟩ := h; rfl
  · obtain ⟨hd, ca, most, rfl, hA, hm, k⟩ := h
    refine ⟨_, (pss_one (ps_ret (pe_tup (pa_cons (pe_op op_add pe_int (pe_call (ok_l_draw T) (hr.mono (by decide)) rfl T.g_l_draw T.k_l_draw T.b_l_draw .nil pass0 (pa_cons (pv 0) (pa_cons (pv 1) pa_nil)))) (pa_cons (pe_op op_add pe_int (pe_call (ok_l_draw T) (hr.mono (by decide)) rfl T.g_l_draw T.k_l_draw T.b_l_draw .nil pass0 (pa_cons (pv 0) (pa_cons (pv 1) pa_nil)))) (pa_cons (pe_op op_add pe_int (pe_call (ok_l_draw T) (hr.mono (by decide)) rfl T.g_l_draw T.k_l_draw T.b_l_draw .nil pass0 (pa_cons (pv 0) (pa_cons (pv 1) pa_nil)))) pa_nil)))))), ?_⟩
    refine ⟨_, rfl, _, rfl, hd, ca, most, rfl, hA, hm, fun r1 H1 a1 b1 k1 hA1 => ⟨_, _, rfl, rfl, ?_⟩⟩
    refine ⟨_, rfl, _, rfl, hd, ca, most, rfl, hA1, hm, fun r2 H2 a2 b2 k2 hA2 => ⟨_, _, rfl, rfl, ?_⟩⟩
    refine ⟨_, rfl, _, rfl, hd, ca, most, rfl, hA2, hm, fun r3 H3 a3 b3 k3 hA3 => ⟨_, _, rfl, rfl, (by show 3 ≤ sizeLine; decide), fun t ht => ?_⟩⟩
    exact k _ _ _ _ _ ⟨by omega, by omega⟩ ⟨by omega, by omega⟩ ⟨by omega, by omega⟩ (((k1.trans k2).trans k3).trans (Ke.new ht).ks) (hA3.ke (Ke.new ht)) ⟨t, rfl, upd_same⟩
end
end Fd
set_option Elab.async false
set_option linter.all false
set_option maxRecDepth 100000
set_option maxHeartbeats 4000000
/-! The sets that a reader keeps, in plain lists. -/
namespace Fd
def subsOf : List Int → List (List Int)
  | [] => [[]]
  | x :: l => subsOf l ++ (subsOf l).map (x :: ·)
theorem len_subsOf : ∀ l : List Int, (subsOf l).length = 2 ^ l.length
  | [] => rfl
  | x :: l => by
    show (subsOf l ++ (subsOf l).map (x :: ·)).length = 2 ^ (l.length + 1)
    rw [List.length_append, List.length_map, len_subsOf l, Nat.pow_succ]; omega
theorem mem_subsOf : ∀ {l s : List Int}, l.Pairwise (· < ·) → s.Pairwise (· < ·) → (∀ x ∈ s, x ∈ l) → s ∈ subsOf l
  | [], [], _, _, _ => by simp [subsOf]
  | [], y :: s, _, _, h => by have := h y (by simp); cases this
  | x :: l, [], h1, _, _ => List.mem_append_left _ (mem_subsOf (List.pairwise_cons.mp h1).2 .nil (fun _ z => by cases z))
  | x :: l, y :: s, h1, h2, h => by
    obtain ⟨p1, q1⟩ := List.pairwise_cons.mp h1
    obtain ⟨p2, q2⟩ := List.pairwise_cons.mp h2
    by_cases c : y = x
    · subst c
      refine List.mem_append_right _ (List.mem_map.mpr ⟨s, mem_subsOf q1 q2 fun z hz => ?_, rfl⟩)
      rcases List.mem_cons.mp (h z (by simp [hz])) with q | q
      · have := p2 z hz; omega
      · exact q
    · have hy : y ∈ l := by
        rcases List.mem_cons.mp (h y (by simp)) with q | q
        · exact absurd q c
        · exact q
      have hxy := p1 y hy
      refine List.mem_append_left _ (mem_subsOf q1 h2 fun z hz => ?_)
      rcases List.mem_cons.mp hz with q | q
      · rw [q]; exact hy
      · rcases List.mem_cons.mp (h z (by simp [q])) with q' | q'
        · have := p2 z q; omega
        · exact q'
theorem ran_sorted (n : Nat) : (ran n).Pairwise (· < ·) := by
  unfold ran
  rw [List.pairwise_map]
  refine List.Pairwise.imp ?_ List.pairwise_lt_range
  intro a b h
  show (a : Int) < b
  omega
def SetOk (o : Ofc) (s : List Int) : Prop := s ≠ [] ∧ s.Pairwise (· < ·) ∧ ∀ x ∈ s, 0 ≤ x ∧ x < o.mv.length
noncomputable def stepsOf (o : Ofc) : List (List Int) := stepsM (o.sz.getD 0 0) (o.sz.getD 1 0) (o.sz.getD 2 0)
/-- the sets that can be come to -/
inductive Reach (o : Ofc) : List Int → Prop
  | z : Reach o [0]
  | s {s st : List Int} : Reach o s → st ∈ stepsOf o → goalsM o s st ≠ [] → Reach o (goalsM o s st)
structure KsI (o : Ofc) (ks : List (List Int)) : Prop where
  hd : ks[0]? = some [0]
  nd : ks.Nodup
  ok : ∀ s ∈ ks, SetOk o s
  le : ks.length ≤ 60
  rc : ∀ s ∈ ks, Reach o s
theorem KsI.len {o : Ofc} {ks : List (List Int)} (k : KsI o ks) (h : o.mv.length ≤ 5) : ks.length ≤ 32 := by
  have h1 := len_sub (b := subsOf (ran o.mv.length)) k.nd fun s hs => mem_subsOf (ran_sorted _) (k.ok s hs).2.1 fun x hx => mem_ran.mpr ((k.ok s hs).2.2 x hx)
  have h2 : (ran o.mv.length).length = o.mv.length := by unfold ran; simp
  rw [len_subsOf, h2] at h1
  exact Nat.le_trans h1 (Nat.pow_le_pow_right (by decide) h : 2 ^ o.mv.length ≤ 2 ^ 5)
theorem KsI.addk {o : Ofc} {ks : List (List Int)} (k : KsI o ks) {g : List Int} (h : SetOk o g) (hl : ks.length < 60) (hr : Reach o g) : KsI o (addk ks g) := by
  refine ⟨?_, addk_nodup k.nd, fun s hs => ?_, ?_, fun s hs => ?_⟩
  · unfold Fd.addk
    split
    · exact k.hd
    · have := k.hd
      have hl : 0 < ks.length := by
        rcases Nat.eq_zero_or_pos ks.length with z | z
        · rw [List.length_eq_zero_iff.mp z] at this; cases this
        · exact z
      rw [List.getElem?_append_left hl]; exact this
  · rcases mem_addk.mp hs with z | z
    · exact k.ok s z
    · rw [z]; exact h
  · unfold Fd.addk
    split
    · exact k.le
    · rw [List.length_append]; exact hl
  · rcases mem_addk.mp hs with z | z
    · exact k.rc s z
    · rw [z]; exact hr
/-- the first t sets lead to kept sets alone -/
def Closed (o : Ofc) (ks : List (List Int)) (t : Nat) : Prop := ∀ i s, i < t → ks[i]? = some s → ∀ st ∈ stepsOf o, goalsM o s st ≠ [] → goalsM o s st ∈ ks
theorem goals_ok {o : Ofc} (g : GoalsOk o) {s st : List Int} (h : goalsM o s st ≠ []) : SetOk o (goalsM o s st) := by
  refine ⟨h, sorted_usort _, fun x hx => ?_⟩
  obtain ⟨a, _, hx⟩ := List.mem_flatMap.mp (mem_usort.mp hx)
  obtain ⟨m, hm, e⟩ := List.mem_filterMap.mp hx
  obtain ⟨r, hr, hm⟩ := at0_mem hm
  have := g r hr m hm
  by_cases c : m.take 3 = st
  · rw [if_pos c] at e
    have e2 : m.getD 3 0 = x := by rw [List.getD_eq_getElem?_getD, e]; rfl
    rw [e2] at this; exact this
  · rw [if_neg c] at e; cases e
theorem idx_app {ks r : List (List Int)} {g : List Int} (h : g ∈ ks) : (ks ++ r).idxOf g = ks.idxOf g := by
  rw [List.idxOf_append, if_pos h]
end Fd
set_option Elab.async false
set_option linter.all false
set_option maxRecDepth 100000
set_option maxHeartbeats 4000000
namespace Fd
open PySem PySem.Spec PyProof.Rows L2
theorem put_tx {H : Hp} {d : Addr} {o o' : HO} (h : H d = some o) (n : ∀ xs, o ≠ .tup xs) : Tx H (upd H d o') := ⟨fun a xs e => by
  rw [upd_ne (ne_of e h (fun z => n xs z.symm))]; exact e⟩
theorem Ks.comp {S S' U : Addr → Prop} {H H1 H2 : Hp} (x : Ks S H H1) (y : Ks S' H1 H2) (m : ∀ a, S a → U a) (n : ∀ a, S' a → U a ∨ H a = none) : Ks U H H2 :=
  ⟨fun a o u h => y.keep a o (fun z => (n a z).elim u fun q => by rw [q] at h; cases h) (x.keep a o (fun z => u (m a z)) h), fun a xs h => y.tup a xs (x.tup a xs h), fun a h => y.there a (x.there a h)⟩
theorem steps_len {o : Ofc} (wf : Wf o) : (stepsOf o).length ≤ 250047 := by
  obtain ⟨a, b, c, ez, ha, hb, hc⟩ := wf.sz
  have lr : ∀ x : Int, x ≤ 63 → (ran x).length ≤ 63 := fun x h => by unfold ran; rw [List.length_map, List.length_range]; omega
  have e : stepsOf o = stepsM a b c := by unfold stepsOf; rw [ez]; rfl
  rw [e]
  unfold stepsM
  have h1 := flat_len (f := fun x => (ran c).map fun k => x ++ [k]) (n := 63) (fun x => by rw [List.length_map]; exact lr c hc.2) ((ran a).flatMap fun s => (ran b).map fun n => [s, n])
  have h2 := flat_len (f := fun s => (ran b).map fun n => [s, n]) (n := 63) (fun x => by rw [List.length_map]; exact lr b hb.2) (ran a)
  have h3 := lr a ha.2
  omega
theorem pimp' {α β : Type} {F G : α → β → Prop} : ∀ {l : List α} {m : List β}, (∀ a b, b ∈ m → F a b → G a b) → Paired F l m → Paired G l m
  | _, _, _, .nil => .nil
  | _, _, f, .cons h t => .cons (f _ _ (by simp) h) (pimp' (fun a b hb => f a b (by simp [hb])) t)
structure RC (K : PySem.W.Frag) (C : Addr) : Prop where
  c : Cls K C
  n1 : NoAttr K C "table"
  n2 : NoAttr K C "shut"
  n3 : NoAttr K C "kept_sets"
def rdF (vt vs vk : V) : List (Str × V) := putF "kept_sets" vk (putF "shut" vs (putF "table" vt []))
section
variable (vt vs vk : V)
theorem rdF_t : (rdF vt vs vk).lookup ("table" : Str) = some vt := by
  unfold rdF
  rw [lookup_putF, if_neg (by decide +kernel), lookup_putF, if_neg (by decide +kernel), lookup_putF, if_pos rfl]
theorem rdF_s : (rdF vt vs vk).lookup ("shut" : Str) = some vs := by
  unfold rdF
  rw [lookup_putF, if_neg (by decide +kernel), lookup_putF, if_pos rfl]
theorem rdF_k : (rdF vt vs vk).lookup ("kept_sets" : Str) = some vk := by
  unfold rdF
  rw [lookup_putF, if_pos rfl]
theorem rdF_no {m : Str} (h1 : ¬ m = "table") (h2 : ¬ m = "shut") (h3 : ¬ m = "kept_sets") : (rdF vt vs vk).lookup m = none := by
  unfold rdF
  rw [lookup_putF, if_neg h3, lookup_putF, if_neg h2, lookup_putF, if_neg h1]
  rfl
end
/-- a row of the table: the steps that lead on from s, and where to -/
def RowAt (o : Ofc) (ks : List (List Int)) (sts : List (List Int)) : Rl (List Int) := fun H v s => ∃ (d : Addr) (kvs : List (List Key × V)) (rk : List (List Int)), v = .ref d ∧ H d = some (.dT kvs) ∧ kvs.map (·.1) = rk.map keyI ∧ rk.Nodup ∧ (∀ st, st ∈ rk ↔ st ∈ sts ∧ goalsM o s st ≠ []) ∧
  ∀ st : List Int, valV kvs (keyI st) = if st ∈ rk then some (.int (ks.idxOf (goalsM o s st) : Nat)) else none
theorem RowAt.sto {o : Ofc} {ks sts : List (List Int)} : Sto (RowAt o ks sts) := fun H H' v s k ⟨d, kvs, rk, e, hd, h⟩ => ⟨d, kvs, rk, e, k.at hd, h⟩
theorem RowAt.grow {o : Ofc} {ks sts r : List (List Int)} {H : Hp} {v : V} {s : List Int} (x : RowAt o ks sts H v s) (h : ∀ st ∈ sts, goalsM o s st ≠ [] → goalsM o s st ∈ ks) : RowAt o (ks ++ r) sts H v s := by
  obtain ⟨d, kvs, rk, e, hd, h1, h2, h3, h4⟩ := x
  refine ⟨d, kvs, rk, e, hd, h1, h2, h3, fun st => ?_⟩
  rw [h4]
  by_cases c : st ∈ rk
  · obtain ⟨c1, c2⟩ := (h3 st).mp c
    rw [if_pos c, if_pos c, idx_app (h st c1 c2)]
  · rw [if_neg c, if_neg c]
/-- a reader stands at p: its kept sets are ks -/
structure ReaderAt (C : Addr) (H : Hp) (p : Addr) (o : Ofc) (ks : List (List Int)) : Prop where
  ex : ∃ dx tl sl kl tws sws kws, H p = some (.ins C dx (rdF (.ref tl) (.ref sl) (.ref kl))) ∧ (H tl = some (.lst tws) ∧ Paired (RowAt o ks (stepsOf o) H) tws ks) ∧ (H sl = some (.lst sws) ∧ Paired (TI H) sws (ks.map (lastsM o))) ∧ H kl = some (.lst kws) ∧ Paired (TI H) kws ks
theorem ReaderAt.ke {C : Addr} {H H' : Hp} {p : Addr} {o : Ofc} {ks : List (List Int)} (x : ReaderAt C H p o ks) (k : Ke H H') : ReaderAt C H' p o ks := by
  obtain ⟨dx, tl, sl, kl, tws, sws, kws, h1, ⟨h2, h3⟩, ⟨h4, h5⟩, h6, h7⟩ := x.ex
  exact ⟨dx, tl, sl, kl, tws, sws, kws, k.at h1, ⟨k.at h2, pimp (fun v x r => RowAt.sto _ _ v x k r) h3⟩, ⟨k.at h4, pimp (fun v x r => TI.stb _ _ v x k.tx r) h5⟩, k.at h6, pimp (fun v x r => TI.stb _ _ v x k.tx r) h7⟩
/-- what an office leans on is no new instance -/
theorem OffAt.off {C C' : Addr} {H : Hp} {po p dx : Addr} {sz : List Int} {mv : List (List (List Int))} {cl : List (List Int)} (x : OffAt C H po sz mv cl) (hp : H p = some (.ins C' dx [])) : OffAt C (Hd (fun a => a = p) H) po sz mv cl := by
  obtain ⟨dx', vs, vm, vc, l, ds, h1, h2, h3, h4, h5, h6⟩ := x.ex
  have tx : Tx H (Hd (fun a => a = p) H) := ⟨fun a xs h => Hd.get (fun e => by rw [e, hp] at h; cases h) h⟩
  refine ⟨dx', vs, vm, vc, l, ds, Hd.get (fun e => ?_) h1, TI.stb _ _ _ _ tx h2, TT.stb (TT.stb TI.stb) _ _ _ _ tx h3, TT.stb TI.stb _ _ _ _ tx h4, Hd.get (fun e => by rw [e, hp] at h5; cases h5) h5, pimp (fun v row ⟨d, kvs, e, hd, g1, g2⟩ => ?_) h6⟩
  · rw [e, hp] at h1
    have e2 := congrArg (fun o => match o with | some (HO.ins _ _ fs) => fs.lookup ("sizes" : Str) | _ => none) h1
    have e3 : (none : Option V) = (offF vs vm vc (.ref l)).lookup ("sizes" : Str) := e2
    rw [offF_s] at e3
    cases e3
  · exact ⟨d, kvs, e, Hd.get (fun e => by rw [e, hp] at hd; cases hd) hd, g1, fun st => (g2 st).imp id fun ⟨li, z1, z2⟩ => ⟨li, z1, Hd.get (fun e => by rw [e, hp] at z2; cases z2) z2⟩⟩
/-- more sets can be come to than a reader keeps -/
def Over (o : Ofc) : Prop := ∃ l : List (List Int), l.Nodup ∧ l.length = 61 ∧ ∀ s ∈ l, Reach o s
def sp_reader (K : PySem.W.Frag) (C CT : Addr) : Sp := fun xs H Q E => ∃ p dx po o C1, xs = [.ref p, .ref po] ∧ H p = some (.ins C dx []) ∧ OC K C1 ∧ OfAt C1 H po o ∧ Wf o ∧
  (Over o → ∀ d H', Ks (fun a => a = p) H H' → H' d = some (.xd [("most", .int 60)]) → E (.ref CT) (some d) H') ∧
  ∀ ks H', KsI o ks → Closed o ks ks.length → Ks (fun a => a = p) H H' → ReaderAt C H' p o ks → Q .non H'
/-- the heap while the steps of one set are taken -/
structure MidR (o : Ofc) (p kd kl rd : Addr) (H5 : Hp) (ks : List (List Int)) (s : List Int) (dn : List (List Int)) (ks' : List (List Int)) (kvs : List (List Key × V)) (rk : List (List Int)) (ws : List V) (H' : Hp) : Prop where
  kk : Ks (fun a => a = kd ∨ a = kl ∨ a = rd) H5 H'
  pre : ∃ r, ks' = ks ++ r
  ki : KsI o ks'
  num : NumAt H' kd ks'
  kp : H' kl = some (.lst ws)
  kw : Paired (TI H') ws ks'
  row : H' rd = some (.dT kvs)
  rke : kvs.map (·.1) = rk.map keyI
  rnd : rk.Nodup
  rm : ∀ st, st ∈ rk ↔ st ∈ dn ∧ goalsM o s st ≠ []
  rv : ∀ st : List Int, valV kvs (keyI st) = if st ∈ rk then some (.int (ks'.idxOf (goalsM o s st) : Nat)) else none
  cl : ∀ st ∈ dn, goalsM o s st ≠ [] → goalsM o s st ∈ ks'
section
variable {P : Program} {w : World} {K : PySem.W.Frag} {mg : Str → Option Value} {base : Heap} (T : Txt K mg) (Er : Err P K mg) (htop : (P.main.scope.names.lookup ("super" : Str)).isSome = false)
include T
theorem Txt.rc : RC K T.a_Reader := ⟨T.c_Reader, T.f_Reader_table, T.f_Reader_shut, T.f_Reader_kept_sets⟩
include Er htop
theorem ok_Reader_init : FnOk P w K mg base (L2.CX P w) 5 T.a_Reader_init T.d_Reader_init P_Reader_init (sp_reader K T.a_Reader Er.a_TooMany) := by
  refine T.F_Reader_init.okX sc_Reader_init (fun vs H Q E h => ?_) (fun cdv A outer s H vs Q E hr h => ?_)
  · obtain ⟨p, dx, po, o, C1, rfl, _⟩ := h; rfl
  · obtain ⟨p, dx, po, o, C1, rfl, hp, oc, of, wf, kE, k⟩ := h
    have tk : Takes (cxOf (L2.CX P w) P w K mg base N_Reader_init "Reader.__init__" (defScope s_Reader_init) T.a_Reader_init cdv A outer s H E) (fun cls d _ H' => E cls d H') := takes_of rfl rfl rfl rfl
    have pso := passes_of (X := cxOf (L2.CX P w) P w K mg base N_Reader_init "Reader.__init__" (defScope s_Reader_init) T.a_Reader_init cdv A outer s H E) rfl
    have hu := hu_of hr
    have rc := T.rc
    obtain ⟨a, b, c, ez, ha, hb, hc⟩ := wf.sz
    have est : stepsOf o = stepsM a b c := by unfold stepsOf; rw [ez]; rfl
    have ofd := of.off hp
    have ofp : ∀ {H'}, Ks (fun a => a = p) H H' → OfAt C1 H' po o := fun kk => (ofd.ke (Hd.ke kk)).ke (Le.ke Hd.le)
    refine ⟨_, (pss_cons (ps_fld (pv 0) (pe_lst pa_nil) rfl)
  (pss_cons (ps_fld (pv 0) (pe_lst pa_nil) rfl)
  (pss_cons (ps_fld (pv 0) (pe_lst (pa_cons (pe_tup (pa_cons pe_int pa_nil)) pa_nil)) rfl)
  (pss_cons (ps_set (i := 2) sc_Reader_init.nd rfl (Or.inl rfl) (pe_call (ok_all_steps T) (hr.mono (by decide)) rfl T.g_all_steps T.k_all_steps T.b_all_steps .nil pass0 (pa_cons (pv 1) pa_nil)))
  (pss_cons (ps_set (i := 3) sc_Reader_init.nd rfl (Or.inl rfl) (pe_dispT hu (pe_tup (pa_cons pe_int pa_nil)) pe_int))
  (pss_one (ps_while pso (pt_cmpR op_lt (pe_callB call_len (by rfl) T.n_len (by decide +kernel) (pa_cons (pe_fld (pv 0) rfl) pa_nil)) (pe_callB call_len (by rfl) T.n_len (by decide +kernel) (pa_cons (pe_fld (pv 0) rfl) pa_nil)) (nomark _)) (pss_cons (ps_set (i := 4) sc_Reader_init.nd rfl (Or.inl rfl) (pe_ix ix_list (pe_fld (pv 0) rfl) (pe_callB call_len (by rfl) T.n_len (by decide +kernel) (pa_cons (pe_fld (pv 0) rfl) pa_nil)) (fun _ _ => rfl)))
  (pss_cons (ps_set (i := 5) sc_Reader_init.nd rfl (Or.inl rfl) pe_dnewT)
  (pss_cons (ps_for pso rfl (pi_list (pv 2)) (pg_name (i := 6) sc_Reader_init.nd rfl (Or.inl rfl)) (pss_cons (ps_set (i := 7) sc_Reader_init.nd rfl (Or.inl rfl) (pe_call (ok_goals_of T) (hr.mono (by decide)) rfl T.g_goals_of T.k_goals_of T.b_goals_of .nil pass0 (pa_cons (pv 1) (pa_cons (pv 4) (pa_cons (pv 6) pa_nil)))))
  (pss_one (ps_if (pt_cmpR op_gt (pe_callB call_len (by rfl) T.n_len (by decide +kernel) (pa_cons (pv 7) pa_nil)) pe_int (nomark _)) (pss_cons (ps_if (pt_cmp (pc_dnotin hu (pv 7) (pv 3))) (pss_cons (ps_if (pt_cmpR op_eq (pe_callB call_len_dT (by rfl) T.n_len (by decide +kernel) (pa_cons (pv 3) pa_nil)) (pe_glob (v := .int (60)) rfl T.g_MOST_SETS ⟨_, rfl⟩) (nomark _)) (pss_one (ps_raise rfl tk (pmk_oex (CX := CX0) Er.u_TooMany.oex Er.i_TooMany Er.t_TooMany (ok_TooMany_init Er htop) (hr.mono (by decide)) Er.b_TooMany_init .nil pass0 rfl Er.g_TooMany (pa_cons (pe_glob (v := .int (60)) rfl T.g_MOST_SETS ⟨_, rfl⟩) pa_nil)))) pss_nil)
  (pss_cons (ps_dput hu (pv 3) (pv 7) (pe_callB call_len_dT (by rfl) T.n_len (by decide +kernel) (pa_cons (pv 3) pa_nil)) rfl)
  (pss_one (ps_expr (pe_bm PySem.F.plainAttrs_list PySem.F.slot_list_append PySem.F.type_list_append mt_append (pe_fld (pv 0) rfl) (pa_cons (pv 7) pa_nil)))))) pss_nil)
  (pss_one (ps_dput hu (pv 5) (pv 6) (pe_dget hu (pv 3) (pv 7) (fun _ _ => rfl)) rfl))) pss_nil))))
  (pss_cons (ps_expr (pe_bm PySem.F.plainAttrs_list PySem.F.slot_list_append PySem.F.type_list_append mt_append (pe_fld (pv 0) rfl) (pa_cons (pv 5) pa_nil)))
  (pss_one (ps_expr (pe_bm PySem.F.plainAttrs_list PySem.F.slot_list_append PySem.F.type_list_append mt_append (pe_fld (pv 0) rfl) (pa_cons (pe_call (ok_lasts_of T) (hr.mono (by decide)) rfl T.g_lasts_of T.k_lasts_of T.b_lasts_of .nil pass0 (pa_cons (pv 1) (pa_cons (pv 4) pa_nil))) pa_nil))))))))))))))), ?_⟩
    -- table, shut, kept_sets
    refine ⟨by decide, fun tl htl => ?_⟩
    have n1 : p ≠ tl := ne_of_none hp htl
    refine ⟨_, rfl, p, _, dx, [], rfl, by rw [upd_ne n1]; exact hp, rc.c, rc.n1, by decide, ?_⟩
    refine ⟨by decide, fun sl hsl => ?_⟩
    have n2 : p ≠ sl := fun z => by rw [← z, upd_same] at hsl; cases hsl
    refine ⟨_, rfl, p, _, dx, _, rfl, by rw [upd_ne n2, upd_same], rc.c, rc.n2, (by show 1 < 1000; decide), ?_⟩
    refine ⟨(by show 1 ≤ sizeLine; decide), fun t0 ht0 => ⟨(by show 1 ≤ sizeLine; decide), fun kl hkl => ?_⟩⟩
    have n3 : p ≠ t0 := fun z => by rw [← z, upd_same] at ht0; cases ht0
    have n4 : p ≠ kl := fun z => by rw [← z, upd_ne n3, upd_same] at hkl; cases hkl
    refine ⟨_, rfl, p, _, dx, _, rfl, by rw [upd_ne n4, upd_ne n3, upd_same], rc.c, rc.n3, (by show 2 < 1000; decide), ?_⟩
    have htl0 : H tl = none := htl
    have t1 : tl ≠ sl := fun z => by rw [← z, upd_ne n1.symm, upd_same] at hsl; cases hsl
    have hsl0 : H sl = none := by rw [upd_ne n2.symm, upd_ne t1.symm] at hsl; exact hsl
    have t2 : tl ≠ t0 := fun z => by rw [← z, upd_ne n1.symm, upd_ne t1, upd_ne n1.symm, upd_same] at ht0; cases ht0
    have t3 : sl ≠ t0 := fun z => by rw [← z, upd_ne n2.symm, upd_same] at ht0; cases ht0
    have ht00 : H t0 = none := by rw [upd_ne n3.symm, upd_ne t3.symm, upd_ne n3.symm, upd_ne t2.symm] at ht0; exact ht0
    have t4 : tl ≠ kl := fun z => by rw [← z, upd_ne t2, upd_ne n1.symm, upd_ne t1, upd_ne n1.symm, upd_same] at hkl; cases hkl
    have t5 : sl ≠ kl := fun z => by rw [← z, upd_ne t3, upd_ne n2.symm, upd_same] at hkl; cases hkl
    have t6 : t0 ≠ kl := fun z => by rw [← z, upd_same] at hkl; cases hkl
    have hkl0 : H kl = none := by rw [upd_ne t6.symm, upd_ne n4.symm, upd_ne t5.symm, upd_ne n4.symm, upd_ne t4.symm] at hkl; exact hkl
    generalize hH1 : upd (upd (upd (upd (upd (upd (upd H tl _) p _) sl _) p _) t0 _) kl _) p _ = H1
    have h1p : H1 p = some (.ins T.a_Reader dx (rdF (.ref tl) (.ref sl) (.ref kl))) := by rw [← hH1]; exact upd_same
    have h1t : H1 tl = some (.lst []) := by rw [← hH1, upd_ne n1.symm, upd_ne t4, upd_ne t2, upd_ne n1.symm, upd_ne t1, upd_ne n1.symm, upd_same]
    have h1s : H1 sl = some (.lst []) := by rw [← hH1, upd_ne n2.symm, upd_ne t5, upd_ne t3, upd_ne n2.symm, upd_same]
    have h10 : H1 t0 = some (.tup [.int 0]) := by rw [← hH1, upd_ne n3.symm, upd_ne t6, upd_same]
    have h1k : H1 kl = some (.lst [.ref t0]) := by rw [← hH1, upd_ne n4.symm, upd_same]
    have nt : ∀ {H' : Hp} {fs}, H' p = some (.ins T.a_Reader dx fs) → ∀ xs, H' p ≠ some (.tup xs) := fun h xs z => by rw [h] at z; cases z
    have k1 : Ks (fun a => a = p) H H1 := by
      rw [← hH1]
      exact (((((((Ks.refl (S := fun a => a = p)).mutNew htl0).mut rfl (nt (by rw [upd_ne n1]; exact hp))).mutNew hsl0).mut rfl (nt (by rw [upd_ne n2, upd_same]))).mutNew ht00).mutNew hkl0).mut rfl (nt (by rw [upd_ne n4, upd_ne n3, upd_same]))
    -- steps
    refine ⟨_, rfl, C1, po, o, a, b, c, rfl, oc, ofp k1, wf, ez, fun stl stw H2 hst1 k2 hst2 pst => ?_⟩
    rw [← est] at pst
    -- known
    intro kd hkd
    refine ⟨(by show 1 ≤ sizeLine; decide), fun t ht => ?_⟩
    have ntkd : t ≠ kd := fun z => by rw [z, upd_same] at ht; cases ht
    refine ⟨by rw [upd_ne ntkd.symm, upd_same], keyI [0], t, rfl, by rw [upd_same]; rfl, ?_⟩
    have k3 : Ke H2 (upd (upd (upd H2 kd (.dT [])) t (.tup [.int 0])) kd (.dT [(keyI [0], .int 0)])) := ((Ke.new hkd).trans (Ke.new ht)).mutNew hkd
    generalize hH3 : upd (upd (upd H2 kd (.dT [])) t (.tup [.int 0])) kd (.dT [(keyI [0], .int 0)]) = H3 at k3 ⊢
    have h3k : H3 kd = some (.dT [(keyI [0], .int 0)]) := by rw [← hH3, upd_same]
    have hkd1 : H1 kd = none := k2.free hkd
    have hkd0 : H kd = none := k1.free hkd1
    have k23 : Ke H1 H3 := k2.trans k3
    have hst3 : H3 stl = some (.lst stw) := k3.at hst2
    have pst3 : Paired (TI H3) stw (stepsOf o) := pimp (fun v x r => TI.stb _ _ v x k3.tx r) pst
    have m1 : tl ≠ kd := ne_of_none h1t hkd1
    have m2 : sl ≠ kd := ne_of_none h1s hkd1
    have m3 : kl ≠ kd := ne_of_none h1k hkd1
    have lst63 := steps_len wf
    have hst0 : H stl = none := k1.free hst1
    have nst : stl ≠ tl ∧ stl ≠ sl ∧ stl ≠ kl ∧ stl ≠ kd ∧ stl ≠ p := ⟨(ne_of_none h1t hst1).symm, (ne_of_none h1s hst1).symm, (ne_of_none h1k hst1).symm, ne_of_none hst2 hkd, (ne_of_none h1p hst1).symm⟩
    have npkd : p ≠ kd := ne_of_none h1p hkd1
    refine while_by (fun σ H' => ∃ ks t tws sws kws, KsI o ks ∧ t ≤ ks.length ∧ Closed o ks t ∧ (∃ s4 s5 s6 s7, σ = [some (.ref p), some (.ref po), some (.ref stl), some (.ref kd), s4, s5, s6, s7]) ∧ Ks (fun a => a = p) H H' ∧ H' p = some (.ins T.a_Reader dx (rdF (.ref tl) (.ref sl) (.ref kl))) ∧
        (H' stl = some (.lst stw) ∧ Tx H3 H') ∧ NumAt H' kd ks ∧ (H' tl = some (.lst tws) ∧ Paired (RowAt o ks (stepsOf o) (Hd (fun a => a = tl ∨ a = sl ∨ a = kl ∨ a = kd) H')) tws (ks.take t)) ∧ (H' sl = some (.lst sws) ∧ Paired (TI H') sws ((ks.take t).map (lastsM o))) ∧ H' kl = some (.lst kws) ∧ Paired (TI H') kws ks)
      (fun σ H' => match H' tl with | some (.lst ws) => 70 - ws.length | _ => 0) ?_ ?_ ?_
    · have hw : 1 ≤ o.mv.length := wf.n1
      refine ⟨[[0]], 0, [], [], [.ref t0], ⟨rfl, by simp, fun s hs => ?_, by decide, fun s hs => by rw [List.mem_singleton.mp hs]; exact .z⟩, by simp, (fun i s hi => by omega), ⟨_, _, _, _, rfl⟩, k1.trans k23.ks, k23.at h1p, ⟨hst3, .refl⟩, ⟨_, h3k, rfl, fun g => ?_⟩, ⟨k23.at h1t, .nil⟩, ⟨k23.at h1s, .nil⟩, k23.at h1k, .cons ⟨t0, rfl, k23.at h10⟩ .nil⟩
      · rw [List.mem_singleton.mp hs]
        exact ⟨by simp, by simp, fun x hx => by rw [List.mem_singleton.mp hx]; omega⟩
      · show valV [(keyI [0], V.int 0)] (keyI g) = if g ∈ [[0]] then _ else none
        by_cases c : g = [0]
        · rw [if_pos (by simp [c]), valV_pos (by rw [c]), c]; rfl
        · rw [if_neg (by simpa using c), valV_neg (fun z => c (keyI_inj z).symm)]; rfl
    · rintro σ H4 ⟨ks, t, tws, sws, kws, ki, tle, cls, ⟨s4, s5, s6, s7, rfl⟩, k4, hp4, ⟨hst4, tx4⟩, num, ⟨ht4, pt4⟩, ⟨hs4, ps4⟩, hk4, pk4⟩
      have lt := plen pt4
      have lk := plen pk4
      have l32 := ki.le
      rw [List.length_take] at lt
      refine ⟨_, rfl, p, _, dx, _, _, rfl, hp4, rc.c, rc.n1, rdF_t _ _ _, .ref tl, tws.length, rfl, .inl ⟨_, SqL.of ht4, rfl⟩, _, rfl, p, _, dx, _, _, rfl, hp4, rc.c, rc.n3, rdF_k _ _ _, .ref kl, kws.length, rfl, .inl ⟨_, SqL.of hk4, rfl⟩, _, _, rfl, rfl, _, rfl, ?_⟩
      refine ite2 (fun c => ?_) (fun c => ?_)
      · have hlt : t < ks.length := by have := of_decide_eq_true c; omega
        obtain ⟨s, hs⟩ : ∃ s, ks[t]? = some s := ⟨_, List.getElem?_eq_getElem hlt⟩
        have hsm := List.mem_of_getElem? hs
        obtain ⟨sv, hsv, rsv⟩ := pget pk4 hs
        have sok := ki.ok s hsm
        -- standings, row
        refine ⟨_, rfl, p, _, dx, _, _, rfl, hp4, rc.c, rc.n3, rdF_k _ _ _, _, rfl, p, _, dx, _, _, rfl, hp4, rc.c, rc.n1, rdF_t _ _ _, .ref tl, tws.length, rfl, .inl ⟨_, SqL.of ht4, rfl⟩, kl, kws, _, sv, rfl, rfl, SqL.of hk4, atI_nat hsv (by omega), ?_⟩
        intro rd hrd
        have k5 : Ke H4 (upd H4 rd (.dT [])) := Ke.new hrd
        have hrd5 : (upd H4 rd (.dT [])) rd = some (.dT []) := upd_same
        generalize hH5 : upd H4 rd (.dT []) = H5 at k5 hrd5 ⊢
        have r1 : tl ≠ rd := ne_of_none ht4 hrd
        have r2 : sl ≠ rd := ne_of_none hs4 hrd
        have r3 : kl ≠ rd := ne_of_none hk4 hrd
        have r4 : kd ≠ rd := by obtain ⟨_, z, _⟩ := num; exact ne_of_none z hrd
        have r5 : p ≠ rd := ne_of_none hp4 hrd
        have r6 : stl ≠ rd := ne_of_none hst4 hrd
        have hrd0 : H rd = none := k4.free hrd
        have nSp : ∀ a, (a = kd ∨ a = kl ∨ a = rd) → a = p ∨ H a = none := by
          rintro a (rfl | rfl | rfl)
          · exact .inr hkd0
          · exact .inr hkl0
          · exact .inr hrd0
        have kp5 : Ks (fun a => a = p) H H5 := k4.trans k5.ks
        refine ⟨_, rfl, stl, rfl, ⟨_, SqL.of (k5.at hst4)⟩, fo_L (R := TI H3) (fun dn σ H' => (∃ s6 s7, σ = [some (.ref p), some (.ref po), some (.ref stl), some (.ref kd), some sv, some (.ref rd), s6, s7]) ∧ ∃ ks' kvs rk ws, MidR o p kd kl rd H5 ks s dn ks' kvs rk ws H') pst3
          ⟨⟨_, _, rfl⟩, ks, [], [], kws, ⟨.refl, ⟨[], by simp⟩, ki, num.ke k5, k5.at hk4, pimp (fun v x r => TI.stb _ _ v x k5.tx r) pk4, hrd5, rfl, .nil, (fun st => by simp), (fun st => rfl), (fun st hst => by cases hst)⟩⟩
          (fun dn σ H' q => by obtain ⟨_, _, _, _, _, m⟩ := q; exact m.kk.keep _ _ (fun z => z.elim nst.2.2.2.1 fun z => z.elim nst.2.2.1 r6) (k5.at hst4)) ?_ ?_⟩
        · rintro dn st r v σ H6 e ⟨sta, rfl, hsta⟩ ⟨⟨s6, s7, rfl⟩, ks', kvs, rk, ws, m⟩
          have kp6 : Ks (fun a => a = p) H H6 := kp5.comp m.kk (fun _ z => z) nSp
          have t36 : Tx H3 H6 := tx4.trans (k5.tx.trans m.kk.tx)
          refine ⟨_, rfl, _, rfl, _, rfl, C1, po, o, sv, _, s, st, rfl, oc, ofp kp6, wf, TI.stb _ _ _ _ (k5.tx.trans m.kk.tx) rsv, ⟨sta, rfl, t36.tup _ _ hsta⟩, sok.2.2, ?_⟩
          rintro gv H7 k7 ⟨ga, rfl, hga⟩
          have hst7 := k7.at (t36.tup _ _ hsta)
          have m7 : MidR o p kd kl rd H5 ks s dn ks' kvs rk ws H7 := ⟨m.kk.trans k7.ks, m.pre, m.ki, m.num.ke k7, k7.at m.kp, pimp (fun v x r => TI.stb _ _ v x k7.tx r) m.kw, k7.at m.row, m.rke, m.rnd, m.rm, m.rv, m.cl⟩
          clear m k7
          have hp7 : H7 p = some (.ins T.a_Reader dx (rdF (.ref tl) (.ref sl) (.ref kl))) := m7.kk.keep _ _ (fun z => z.elim npkd fun z => z.elim n4 r5) (k5.at hp4)
          have ldn : dn.length < (stepsOf o).length := by rw [e]; simp
          have lrk : rk.length ≤ dn.length := len_sub m7.rnd fun x hx => ((m7.rm x).mp hx).1
          have lkv : kvs.length = rk.length := by have := congrArg List.length m7.rke; simpa using this
          refine ⟨_, rfl, .ref ga, _, rfl, .inr ⟨_, SqT.of hga, rfl⟩, _, _, rfl, rfl, _, rfl, ?_⟩
          by_cases hg0 : goalsM o s st = []
          · rw [hg0]
            refine ifF (by simp) ⟨⟨_, _, rfl⟩, ks', kvs, rk, ws, m7.kk, m7.pre, m7.ki, m7.num, m7.kp, m7.kw, m7.row, m7.rke, m7.rnd, fun x => ?_, m7.rv, fun x hx hne => ?_⟩
            · rw [m7.rm]
              constructor
              · rintro ⟨q1, q2⟩; exact ⟨by simp [q1], q2⟩
              · rintro ⟨q1, q2⟩
                rcases List.mem_append.mp q1 with z | z
                · exact ⟨z, q2⟩
                · rw [List.mem_singleton.mp z] at q2; exact absurd hg0 q2
            · rcases List.mem_append.mp hx with z | z
              · exact m7.cl x z hne
              · rw [List.mem_singleton.mp z] at hne; exact absurd hg0 hne
          · have lg : 0 < (goalsM o s st).length := List.length_pos_iff.mpr hg0
            refine ifT (by rw [List.length_map]; omega) ?_
            obtain ⟨kvk, hkd7, lkk, fkk⟩ := m7.num
            have l32' := m7.ki.le
            have rch : Reach o (goalsM o s st) := .s (m7.ki.rc s (by obtain ⟨r0, er0⟩ := m7.pre; rw [er0]; exact List.mem_append_left _ hsm)) (by first | assumption | (rw [e]; simp)) hg0
            have dg : DGet H7 kd (.ref ga) (valV kvk (keyI (goalsM o s st))) := DGet.t hkd7 (by rw [keyI_kV]; exact hga)
            refine ⟨_, rfl, _, rfl, kd, _, rfl, dg, _, rfl, ?_⟩
            rw [fkk]
            have lws := plen m7.kw
            rcases Classical.em (goalsM o s st ∈ ks') with hg | hg
            case' inl =>
              rw [if_pos hg]
              refine iteF ?_
              have F : ∃ ks2 ws2, Ks (fun a => a = kd ∨ a = kl ∨ a = rd) H5 H7 ∧ (∃ r, ks2 = ks ++ r) ∧ KsI o ks2 ∧ NumAt H7 kd ks2 ∧ H7 kl = some (.lst ws2) ∧ Paired (TI H7) ws2 ks2 ∧ H7 rd = some (.dT kvs) ∧ Tx H7 H7 ∧ goalsM o s st ∈ ks2 ∧ ∀ g ∈ ks', g ∈ ks2 ∧ ks2.idxOf g = ks'.idxOf g :=
                ⟨ks', ws, m7.kk, m7.pre, m7.ki, m7.num, m7.kp, m7.kw, m7.row, .refl, hg, fun g h => ⟨h, rfl⟩⟩
            case' inr =>
              rw [if_neg hg]
              refine iteT ⟨_, rfl, kd, kvk, rfl, hkd7, rfl, _, rfl, ite2 (fun c => ?_) (fun c => ?_)⟩
              · have e60 : kvk.length = 60 := by have z := of_decide_eq_true c; injection z with z; omega
                refine ⟨by decide, fun ea hea => ⟨ea, 60, rfl, upd_same, fun d hd nd => ⟨rfl, d, [("most", .int 60)], upd_same, by rw [upd_ne nd]; exact upd_same, (by rw [upd_ne nd] at hd; exact hd), kE ⟨ks' ++ [goalsM o s st], ?_, by rw [List.length_append, ← lkk, e60]; rfl, fun x hx => ?_⟩ d _ (ks_exc (kp5.comp m7.kk (fun _ z => z) nSp) hea (by rw [upd_ne nd] at hd; exact hd) nd) upd_same⟩⟩⟩
                · have := addk_nodup (g := goalsM o s st) m7.ki.nd
                  unfold addk at this
                  rw [if_neg hg] at this
                  exact this
                · rcases List.mem_append.mp hx with z | z
                  · exact m7.ki.rc x z
                  · rw [List.mem_singleton.mp z]; exact rch
              have n60 : ks'.length < 60 := by
                have := m7.ki.le
                rcases Nat.lt_or_ge ks'.length 60 with z | z
                · exact z
                · have e60 : kvk.length = 60 := by omega
                  rw [e60] at c
                  exact absurd (decide_eq_true rfl) c
              refine ⟨_, rfl, kd, kvk, rfl, hkd7, _, rfl, _, rfl, kd, _, rfl, DPut.t (k := keyI (goalsM o s st)) hkd7 (by rw [keyI_kV]; exact hga) (by rw [sizeLine_eq]; omega), ?_⟩
              have hp8 : (upd H7 kd (.dT (putK kvk (keyI (goalsM o s st)) (.int kvk.length)))) p = some (.ins T.a_Reader dx (rdF (.ref tl) (.ref sl) (.ref kl))) := by rw [upd_ne npkd]; exact hp7
              have hk8 : (upd H7 kd (.dT (putK kvk (keyI (goalsM o s st)) (.int kvk.length)))) kl = some (.lst ws) := by rw [upd_ne m3]; exact m7.kp
              refine ⟨_, rfl, p, _, dx, _, _, rfl, hp8, rc.c, rc.n3, rdF_k _ _ _, .inl ⟨rfl, _, SqL.of hk8⟩, _, rfl, kl, ws, _, rfl, rfl, hk8, by rw [sizeLine_eq]; omega, ?_⟩
              have F : ∃ ks2 ws2, Ks (fun a => a = kd ∨ a = kl ∨ a = rd) H5 (upd (upd H7 kd (.dT (putK kvk (keyI (goalsM o s st)) (.int kvk.length)))) kl (.lst (ws ++ [.ref ga]))) ∧ (∃ r, ks2 = ks ++ r) ∧ KsI o ks2 ∧ NumAt (upd (upd H7 kd (.dT (putK kvk (keyI (goalsM o s st)) (.int kvk.length)))) kl (.lst (ws ++ [.ref ga]))) kd ks2 ∧ (upd (upd H7 kd (.dT (putK kvk (keyI (goalsM o s st)) (.int kvk.length)))) kl (.lst (ws ++ [.ref ga]))) kl = some (.lst ws2) ∧
                  Paired (TI (upd (upd H7 kd (.dT (putK kvk (keyI (goalsM o s st)) (.int kvk.length)))) kl (.lst (ws ++ [.ref ga])))) ws2 ks2 ∧ (upd (upd H7 kd (.dT (putK kvk (keyI (goalsM o s st)) (.int kvk.length)))) kl (.lst (ws ++ [.ref ga]))) rd = some (.dT kvs) ∧ Tx H7 (upd (upd H7 kd (.dT (putK kvk (keyI (goalsM o s st)) (.int kvk.length)))) kl (.lst (ws ++ [.ref ga]))) ∧ goalsM o s st ∈ ks2 ∧ ∀ g ∈ ks', g ∈ ks2 ∧ ks2.idxOf g = ks'.idxOf g := by
                have tx : Tx H7 (upd (upd H7 kd (.dT (putK kvk (keyI (goalsM o s st)) (.int kvk.length)))) kl (.lst (ws ++ [.ref ga]))) := ⟨fun a xs h => by
                  rw [upd_ne (ne_of h m7.kp (fun z => nomatch z)), upd_ne (ne_of h hkd7 (fun z => nomatch z))]; exact h⟩
                obtain ⟨r0, er0⟩ := m7.pre
                refine ⟨ks' ++ [goalsM o s st], ws ++ [.ref ga], (m7.kk.mut (.inl rfl) (fun ys z => by rw [hkd7] at z; cases z)).mut (.inr (.inl rfl)) (fun ys z => by rw [hk8] at z; cases z), ⟨r0 ++ [goalsM o s st], by rw [er0, List.append_assoc]⟩, ?_, ⟨_, by rw [upd_ne m3.symm, upd_same], num_len hg lkk fkk, ?_⟩, upd_same, papp (pimp (fun v x r => TI.stb _ _ v x tx r) m7.kw) (.cons ⟨ga, rfl, tx.tup _ _ hga⟩ .nil), by rw [upd_ne r3.symm, upd_ne r4.symm]; exact m7.row, tx, by simp, fun g h => ⟨by simp [h], idx_app h⟩⟩
                · have := m7.ki.addk (goals_ok wf.goals hg0) n60 rch
                  unfold addk at this
                  rw [if_neg hg] at this
                  exact this
                · rw [lkk]; exact num_put hg fkk
            all_goals
              obtain ⟨ks2, ws2, f1, f2, f3, ⟨kvk2, f4, f4', f4''⟩, f5, f6, f7, f8, f9, f10⟩ := F
              have fx : valV kvk2 (keyI (goalsM o s st)) = some (.int (ks2.idxOf (goalsM o s st) : Nat)) := by rw [f4'', if_pos f9]
              refine ⟨_, rfl, _, rfl, kd, _, rfl, by rw [← fx]; exact DGet.t f4 (by rw [keyI_kV]; exact f8.tup _ _ hga), _, rfl, _, rfl, rd, _, rfl, DPut.t (k := keyI st) f7 (by rw [keyI_kV]; exact f8.tup _ _ hst7) (by rw [sizeLine_eq]; omega), ⟨_, _, rfl⟩, ks2, putK kvs (keyI st) (.int (ks2.idxOf (goalsM o s st) : Nat)), addk rk st, ws2, ?_⟩
              have txR := put_tx (o' := .dT (putK kvs (keyI st) (.int (ks2.idxOf (goalsM o s st) : Nat)))) f7 (fun _ z => nomatch z)
              refine ⟨f1.mut (.inr (.inr rfl)) (fun ys z => by rw [f7] at z; cases z), f2, f3, ⟨kvk2, by rw [upd_ne r4]; exact f4, f4', f4''⟩, by rw [upd_ne r3]; exact f5, pimp (fun v x r => TI.stb _ _ v x txR r) f6, upd_same, keys_put keyI (fun _ _ z => keyI_inj z) m7.rke, addk_nodup m7.rnd, fun x => ?_, fun x => ?_, fun x hx hne => ?_⟩
              · rw [mem_addk, m7.rm]
                constructor
                · rintro (⟨q1, q2⟩ | q)
                  · exact ⟨by simp [q1], q2⟩
                  · rw [q]; exact ⟨by simp, hg0⟩
                · rintro ⟨q1, q2⟩
                  rcases List.mem_append.mp q1 with z | z
                  · exact .inl ⟨z, q2⟩
                  · exact .inr (List.mem_singleton.mp z)
              · rw [valV_put]
                by_cases cx : x = st
                · subst cx
                  rw [if_pos rfl, if_pos (mem_addk.mpr (.inr rfl))]
                · rw [if_neg (fun z => cx (keyI_inj z)), m7.rv]
                  by_cases cr : x ∈ rk
                  · rw [if_pos cr, if_pos (mem_addk.mpr (.inl cr)), (f10 _ (m7.cl x ((m7.rm x).mp cr).1 ((m7.rm x).mp cr).2)).2]
                  · rw [if_neg cr, if_neg (fun z => (mem_addk.mp z).elim cr cx)]
              · rcases List.mem_append.mp hx with z | z
                · exact (f10 _ (m7.cl x z hne)).1
                · rw [List.mem_singleton.mp z]; exact f9
        · rintro σ H6 ⟨⟨s6, s7, rfl⟩, ks', kvs, rk, ws, m⟩
          have kp6 : Ks (fun a => a = p) H H6 := kp5.comp m.kk (fun _ z => z) nSp
          have hp6 : H6 p = some (.ins T.a_Reader dx (rdF (.ref tl) (.ref sl) (.ref kl))) := m.kk.keep _ _ (fun z => z.elim npkd fun z => z.elim n4 r5) (k5.at hp4)
          have ht6 : H6 tl = some (.lst tws) := m.kk.keep _ _ (fun z => z.elim m1 fun z => z.elim t4 r1) (k5.at ht4)
          have hs6 : H6 sl = some (.lst sws) := m.kk.keep _ _ (fun z => z.elim m2 fun z => z.elim t5 r2) (k5.at hs4)
          have ls := plen ps4
          rw [List.length_map, List.length_take] at ls
          refine ⟨_, rfl, p, _, dx, _, _, rfl, hp6, rc.c, rc.n1, rdF_t _ _ _, .inl ⟨rfl, _, SqL.of ht6⟩, _, rfl, tl, tws, _, rfl, rfl, ht6, by rw [sizeLine_eq]; omega, ?_⟩
          have npt : p ≠ tl := n1
          have k7 : Ks (fun a => a = p) H (upd H6 tl (.lst (tws ++ [.ref rd]))) := kp6.mutNew htl0
          have tx7 : Tx H6 (upd H6 tl (.lst (tws ++ [.ref rd]))) := snoc_tx .refl ht6
          have t47 : Tx H4 (upd H6 tl (.lst (tws ++ [.ref rd]))) := k5.tx.trans (m.kk.tx.trans tx7)
          have hp7 : (upd H6 tl (.lst (tws ++ [.ref rd]))) p = some (.ins T.a_Reader dx (rdF (.ref tl) (.ref sl) (.ref kl))) := by rw [upd_ne n1]; exact hp6
          have hs7 : (upd H6 tl (.lst (tws ++ [.ref rd]))) sl = some (.lst sws) := by rw [upd_ne t1.symm]; exact hs6
          refine ⟨_, rfl, p, _, dx, _, _, rfl, hp7, rc.c, rc.n2, rdF_s _ _ _, .inl ⟨rfl, _, SqL.of hs7⟩, _, rfl, _, rfl, C1, po, o, sv, s, rfl, oc, ofp k7, wf, TI.stb _ _ _ _ t47 rsv, sok.2.2, ?_⟩
          intro lv H8 k8 tlv
          have hs8 := k8.at hs7
          refine ⟨sl, sws, _, rfl, rfl, hs8, by rw [sizeLine_eq]; omega, ?_⟩
          have tx9 : Tx H8 (upd H8 sl (.lst (sws ++ [lv]))) := snoc_tx .refl hs8
          have t49 : Tx H4 (upd H8 sl (.lst (sws ++ [lv]))) := t47.trans (k8.tx.trans tx9)
          have ht9 : (upd H8 sl (.lst (sws ++ [lv]))) tl = some (.lst (tws ++ [.ref rd])) := by rw [upd_ne t1]; exact k8.at upd_same
          obtain ⟨r0, er0⟩ := m.pre
          have ks'0 : ks'[t]? = some s := by rw [er0, List.getElem?_append_left hlt]; exact hs
          have tk : ks'.take t = ks.take t := by rw [er0, List.take_append_of_le_length tle]
          have tk1 : ks'.take (t + 1) = ks.take t ++ [s] := by rw [List.take_succ, tk, ks'0]; rfl
          have X1 : Ks (fun a => a = tl ∨ a = sl ∨ a = kl ∨ a = kd) H4 H6 := k5.comp m.kk (fun _ z => z.elim) (by
            rintro a (rfl | rfl | rfl)
            · exact .inl (.inr (.inr (.inr rfl)))
            · exact .inl (.inr (.inr (.inl rfl)))
            · exact .inr hrd)
          have X2 : Ks (fun a => a = tl ∨ a = sl ∨ a = kl ∨ a = kd) H6 (upd H8 sl (.lst (sws ++ [lv]))) := (((Ks.refl (S := fun a => a = tl ∨ a = sl ∨ a = kl ∨ a = kd)).mut (.inl rfl) (fun ys z => by rw [ht6] at z; cases z)).trans k8.ks).mut (.inr (.inl rfl)) (fun ys z => by rw [hs8] at z; cases z)
          have klast : Ks (fun a => a = p) H (upd H8 sl (.lst (sws ++ [lv]))) := (k7.trans k8.ks).mutNew hsl0
          have get9 : ∀ a o', a ≠ tl → a ≠ sl → H6 a = some o' → (upd H8 sl (.lst (sws ++ [lv]))) a = some o' := fun a o' z1 z2 h => by
            rw [upd_ne z2]; exact k8.at (by rw [upd_ne z1]; exact h)
          refine ⟨⟨ks', t + 1, tws ++ [.ref rd], sws ++ [lv], ws, m.ki, by rw [er0, List.length_append]; omega, ?_, ⟨_, _, _, _, rfl⟩, klast, get9 _ _ n1 n2 hp6, ⟨?_, tx4.trans t49⟩, ?_, ⟨ht9, ?_⟩, ⟨upd_same, ?_⟩, get9 _ _ t4.symm t5.symm m.kp, pimp (fun v x r => TI.stb _ _ v x (tx7.trans (k8.tx.trans tx9)) r) m.kw⟩, ?_⟩
          · intro i x hi hx st hst hne
            rcases Nat.lt_or_ge i t with z | z
            · have hx' : ks[i]? = some x := by rw [er0, List.getElem?_append_left (by omega)] at hx; exact hx
              rw [er0]
              exact List.mem_append_left _ (cls i x z hx' st hst hne)
            · have ei : i = t := by omega
              subst ei
              rw [ks'0] at hx; cases hx
              exact m.cl st hst hne
          · exact get9 _ _ nst.1 nst.2.1 (m.kk.keep _ _ (fun z => z.elim nst.2.2.2.1 fun z => z.elim nst.2.2.1 r6) (k5.at hst4))
          · obtain ⟨kv, z1, z2, z3⟩ := m.num
            exact ⟨kv, get9 _ _ m1.symm m2.symm z1, z2, z3⟩
          · rw [tk1]
            refine papp (pimp' (fun v x hx r => ?_) pt4) (.cons ⟨rd, kvs, rk, rfl, Hd.get (fun z => z.elim (fun z => r1 z.symm) fun z => z.elim (fun z => r2 z.symm) fun z => z.elim (fun z => r3 z.symm) fun z => r4 z.symm) (get9 _ _ r1.symm r2.symm m.row), m.rke, m.rnd, m.rm, m.rv⟩ .nil)
            rw [er0]
            obtain ⟨i, hi⟩ := List.mem_iff_getElem?.mp hx
            have hit : i < t := by have := (List.getElem?_eq_some_iff.mp hi).1; rw [List.length_take] at this; omega
            have hi' : ks[i]? = some x := by rw [List.getElem?_take, if_pos hit] at hi; exact hi
            exact (RowAt.sto _ _ _ _ (Hd.ke (X1.trans X2)) r).grow fun st hst hne => cls i x hit hi' st hst hne
          · rw [tk1, List.map_append]
            exact papp (pimp (fun v x r => TI.stb _ _ v x t49 r) ps4) (.cons (TI.stb _ _ _ _ tx9 tlv) .nil)
          · show (match (upd H8 sl (.lst (sws ++ [lv]))) tl with | some (.lst ws) => 70 - ws.length | _ => 0) < (match H4 tl with | some (.lst ws) => 70 - ws.length | _ => 0)
            rw [ht9, ht4]
            show 70 - (tws ++ [_]).length < 70 - tws.length
            simp only [List.length_append, List.length_singleton]; omega
      · have et : t = ks.length := by
          have : ¬ ((tws.length : Nat) : Int) < (kws.length : Nat) := fun z => c (decide_eq_true z)
          omega
        subst et
        rw [List.take_length] at pt4 ps4
        refine k ks H4 ki cls k4 ⟨dx, tl, sl, kl, tws, sws, kws, hp4, ⟨ht4, pimp (fun v x r => RowAt.sto _ _ v x (Le.ke Hd.le) r) pt4⟩, ⟨hs4, ps4⟩, hk4, pk4⟩
    · intro σ H' Q Q' hq h
      obtain ⟨v, e1, a1, C1, dx1, fs1, v1, q1, q2, q3, q4, q5, x, n, e2, l1, v', e3, a2, C2, dx2, fs2, v2, r1, r2, r3, r4, r5, x', n', e4, l2, i, j, e5, e6, b, e7, q⟩ := h
      exact ⟨v, e1, a1, C1, dx1, fs1, v1, q1, q2, q3, q4, q5, x, n, e2, l1, v', e3, a2, C2, dx2, fs2, v2, r1, r2, r3, r4, r5, x', n', e4, l2, i, j, e5, e6, b, e7, hq _ _ q⟩
end
end Fd
set_option Elab.async false
set_option linter.all false
set_option maxRecDepth 100000
set_option maxHeartbeats 4000000
namespace Fd
open PySem PySem.Spec PyProof.Rows L2
/-- the rows that are drawn: right, and short -/
def RowsOk (sz : List Int) (many : Int) (mv : List (List (List Int))) : Prop := ∀ r ∈ mv, RowOk sz many r ∧ r.length ≤ 6
def sp_lmoves : Sp := fun xs H Q _ => ∃ hd ca u a b c many, xs = [.ref hd, u, .int many] ∧ HandAt H hd ca ∧ TI H u [a, b, c] ∧ (1 ≤ a ∧ a ≤ 4) ∧ (1 ≤ b ∧ b ≤ 4) ∧ (1 ≤ c ∧ c ≤ 4) ∧ (1 ≤ many ∧ many ≤ 20) ∧
  ∀ v mv H', Ks (fun x => x = hd) H H' → HandAt H' hd ca → MV H' v mv → (mv.length : Int) = many → RowsOk [a, b, c] many mv → Q v H'
/-- the moves drawn so far, as the keys of a dict -/
structure RD (H : Hp) (d : Addr) (sz : List Int) (many : Int) (n : Nat) (kvs : List (List Key × V)) (ks : List (List Int)) : Prop where
  at_ : H d = some (.dT kvs)
  ke : kvs.map (·.1) = ks.map keyI
  nd : ks.Nodup
  ok : ∀ m ∈ ks, MoveOk sz many m
  len : ks.length ≤ n
theorem RD.put {H : Hp} {d : Addr} {sz : List Int} {many : Int} {n : Nat} {kvs : List (List Key × V)} {ks : List (List Int)} {m : List Int} {v : V} {H' : Hp} (x : RD H d sz many n kvs ks) (hm : MoveOk sz many m) : RD (upd H' d (.dT (putK kvs (keyI m) v))) d sz many (n + 1) (putK kvs (keyI m) v) (addk ks m) where
  at_ := upd_same
  ke := keys_put keyI (fun _ _ z => keyI_inj z) x.ke
  nd := addk_nodup x.nd
  ok := fun z hz => (mem_addk.mp hz).elim (x.ok z) fun e => by rw [e]; exact hm
  len := by
    have := x.len
    unfold addk
    split
    · omega
    · rw [List.length_append, List.length_singleton]; omega
section
variable {P : Program} {w : World} {K : PySem.W.Frag} {mg : Str → Option Value} {base : Heap} (T : Txt K mg)
include T
theorem ok_l_moves : FnOk P w K mg base CX0 2 T.a_l_moves T.d_l_moves P_l_moves sp_lmoves := by
  refine T.F_l_moves.ok sc_l_moves (fun vs H Q E h => ?_) (fun cdv A outer s H vs Q E hr h => ?_)
  · obtain ⟨hd, ca, u, a, b, c, many, rfl, _⟩ := h; rfl
  · obtain ⟨hd, ca, u, a, b, c, many, rfl, hA, ⟨ua, rfl, hu0⟩, ha, hb, hc, hm, k⟩ := h
    have hu := hu_of hr
    refine ⟨_, (pss_cons (ps_set (i := 3) sc_l_moves.nd rfl (Or.inl rfl) (pe_lst pa_nil))
  (pss_cons (ps_for PassesOwn.never rfl (pi_range1 rfl T.n_range (pa_cons (pv 2) pa_nil)) (pg_name (i := 4) sc_l_moves.nd rfl (Or.inl rfl)) (pss_cons (ps_set (i := 5) sc_l_moves.nd rfl (Or.inl rfl) pe_dnewT)
  (pss_cons (ps_if (pt_cmpR op_gt (pe_call (ok_l_draw T) (hr.mono (by decide)) rfl T.g_l_draw T.k_l_draw T.b_l_draw .nil pass0 (pa_cons (pv 0) (pa_cons pe_int pa_nil))) pe_int (nomark _)) (pss_one (ps_for PassesOwn.never rfl (pi_range1 rfl T.n_range (pa_cons (pe_ix ix_tup (pv 1) pe_int (fun _ _ => rfl)) pa_nil)) (pg_name (i := 6) sc_l_moves.nd rfl (Or.inl rfl)) (pss_one (ps_dput hu (pv 5) (pe_tup (pa_cons (pv 6) (pa_cons (pe_call (ok_l_draw T) (hr.mono (by decide)) rfl T.g_l_draw T.k_l_draw T.b_l_draw .nil pass0 (pa_cons (pv 0) (pa_cons (pe_ix ix_tup (pv 1) pe_int (fun _ _ => rfl)) pa_nil))) (pa_cons (pe_call (ok_l_draw T) (hr.mono (by decide)) rfl T.g_l_draw T.k_l_draw T.b_l_draw .nil pass0 (pa_cons (pv 0) (pa_cons (pe_ix ix_tup (pv 1) pe_int (fun _ _ => rfl)) pa_nil))) (pa_cons (pe_call (ok_l_draw T) (hr.mono (by decide)) rfl T.g_l_draw T.k_l_draw T.b_l_draw .nil pass0 (pa_cons (pv 0) (pa_cons (pv 2) pa_nil))) pa_nil))))) pe_bl rfl)))) pss_nil)
  (pss_cons (ps_for PassesOwn.never rfl (pi_range1 rfl T.n_range (pa_cons (pe_call (ok_l_draw T) (hr.mono (by decide)) rfl T.g_l_draw T.k_l_draw T.b_l_draw .nil pass0 (pa_cons (pv 0) (pa_cons pe_int pa_nil))) pa_nil)) (pg_name (i := 7) sc_l_moves.nd rfl (Or.inl rfl)) (pss_cons (ps_set (i := 6) sc_l_moves.nd rfl (Or.inl rfl) (pe_call (ok_l_draw T) (hr.mono (by decide)) rfl T.g_l_draw T.k_l_draw T.b_l_draw .nil pass0 (pa_cons (pv 0) (pa_cons (pe_ix ix_tup (pv 1) pe_int (fun _ _ => rfl)) pa_nil))))
  (pss_one (ps_dput hu (pv 5) (pe_tup (pa_cons (pv 6) (pa_cons (pe_call (ok_l_draw T) (hr.mono (by decide)) rfl T.g_l_draw T.k_l_draw T.b_l_draw .nil pass0 (pa_cons (pv 0) (pa_cons (pe_ix ix_tup (pv 1) pe_int (fun _ _ => rfl)) pa_nil))) (pa_cons (pe_call (ok_l_draw T) (hr.mono (by decide)) rfl T.g_l_draw T.k_l_draw T.b_l_draw .nil pass0 (pa_cons (pv 0) (pa_cons (pe_ix ix_tup (pv 1) pe_int (fun _ _ => rfl)) pa_nil))) (pa_cons (pe_call (ok_l_draw T) (hr.mono (by decide)) rfl T.g_l_draw T.k_l_draw T.b_l_draw .nil pass0 (pa_cons (pv 0) (pa_cons (pv 2) pa_nil))) pa_nil))))) pe_bl rfl))))
  (pss_one (ps_expr (pe_bm PySem.F.plainAttrs_list PySem.F.slot_list_append PySem.F.type_list_append mt_append (pv 3) (pa_cons (pe_callTy call_tuple_of (by rfl) T.n_tuple (by decide +kernel) (pa_cons (pe_callB (cr_sortedD hr) (by rfl) T.n_sorted (by decide +kernel) (pa_cons (pe_callTy (call_list_dT rfl) (by rfl) T.n_list (by decide +kernel) (pa_cons (pv 5) pa_nil)) pa_nil)) pa_nil)) pa_nil))))))))
  (pss_one (ps_ret (pe_callTy call_tuple_of (by rfl) T.n_tuple (by decide +kernel) (pa_cons (pv 3) pa_nil)))))), ?_⟩
    refine ⟨by decide, fun f hf => ?_⟩
    have n1 : f ≠ hd := fun z => hA.there.1 (by rw [← z]; exact hf)
    have n2 : f ≠ ca := fun z => hA.there.2 (by rw [← z]; exact hf)
    refine ⟨_, rfl, many, rfl, by omega, by omega, for_range (fun i σ H' => (∃ s4 s5 s6 s7, σ = [some (.ref hd), some (.ref ua), some (.int many), some (.ref f), s4, s5, s6, s7]) ∧ Ks (fun x => x = hd) H H' ∧ HandAt H' hd ca ∧ ∃ ws mv, H' f = some (.lst ws) ∧ Paired (TT TI H') ws mv ∧ mv.length = i ∧ RowsOk [a, b, c] many mv)
      ⟨⟨_, _, _, _, rfl⟩, (Ke.new hf).ks, hA.ke (Ke.new hf), [], [], upd_same, .nil, rfl, (fun r hr => by cases hr)⟩ ?_ ?_⟩
    · rintro i σ H1 hi ⟨⟨s4, s5, s6, s7, rfl⟩, k1, hA1, ws, mv, hf1, pw, lmv, rows⟩
      have hu1 := k1.tup _ _ hu0
      -- row
      intro rd hrd
      have n3 : rd ≠ hd := fun z => hA1.there.1 (by rw [← z]; exact hrd)
      have n4 : rd ≠ ca := fun z => hA1.there.2 (by rw [← z]; exact hrd)
      have n5 : f ≠ rd := ne_of_none hf1 hrd
      have kr : Ke H1 (upd H1 rd (.dT [])) := Ke.new hrd
      have rd0 : RD (upd H1 rd (.dT [])) rd [a, b, c] many 0 [] [] := ⟨upd_same, rfl, .nil, (fun _ z => by cases z), Nat.le_refl _⟩
      have hA2 := hA1.ke kr
      generalize hH2 : upd H1 rd (.dT []) = H2 at kr rd0 hA2 ⊢
      have k2 : Ks (fun x => x = hd ∨ x = rd) H1 H2 := kr.ks
      -- one more move of the slip in slot 6
      have one : ∀ (x1 x2 x3 x4 : Int), (0 ≤ x1 ∧ x1 < a) → (0 ≤ x2 ∧ x2 < b) → (0 ≤ x3 ∧ x3 < c) → (0 ≤ x4 ∧ x4 < many) → MoveOk [a, b, c] many [x1, x2, x3, x4] := fun x1 x2 x3 x4 h1 h2 h3 h4 => ⟨a, b, c, x1, x2, x3, x4, rfl, rfl, ⟨by omega, by omega⟩, ⟨by omega, by omega⟩, ⟨by omega, by omega⟩, by omega, by omega⟩
      refine ⟨_, rfl, hd, ca, 3, rfl, hA2, ⟨by decide, by decide⟩, fun r0 H3 _ _ k3 hA3 => ?_⟩
      have rd3 : RD H3 rd [a, b, c] many 0 [] [] := { rd0 with at_ := k3.keep _ _ n3 rd0.at_ }
      have k03 : Ks (fun x => x = hd ∨ x = rd) H1 H3 := k2.trans (k3.mono fun _ z => .inl z)
      refine ⟨_, _, rfl, rfl, _, rfl, ?_⟩
      refine (show (∀ (σ : L2.St) (H4 : Hp), ((∃ s6 s7, σ = [some (.ref hd), some (.ref ua), some (.int many), some (.ref f), some (.int (0 + (i : Nat))), some (.ref rd), s6, s7]) ∧ Ks (fun x => x = hd ∨ x = rd) H1 H4 ∧ HandAt H4 hd ca ∧ ∃ kvs ks, RD H4 rd [a, b, c] many 4 kvs ks) → (?G : L2.St → Hp → Prop) σ H4) → _ from fun tail => ite2 (fun hc0 => ?ca) (fun hc0 => ?cb)) ?tl
      case ca =>
        refine ⟨_, rfl, ua, _, 0, _, rfl, rfl, SqT.of (k03.tup _ _ hu1), rfl, a, rfl, by omega, by omega, for_range (fun j σ H' => (∃ s6 s7, σ = [some (.ref hd), some (.ref ua), some (.int many), some (.ref f), some (.int (0 + (i : Nat))), some (.ref rd), s6, s7]) ∧ Ks (fun x => x = hd ∨ x = rd) H1 H' ∧ HandAt H' hd ca ∧ ∃ kvs ks, RD H' rd [a, b, c] many j kvs ks) ⟨⟨_, _, rfl⟩, k03, hA3, _, _, rd3⟩ ?_ ?_⟩
        · rintro j σ H4 hj ⟨⟨s6, s7, rfl⟩, k4, hA4, kvs, ks, r4⟩
          have hu4 := k4.tup _ _ hu1
          refine ⟨_, rfl, _, rfl, _, rfl, _, rfl, ua, _, 1, _, rfl, rfl, SqT.of hu4, rfl, hd, ca, b, rfl, hA4, ⟨by omega, by omega⟩, fun x2 H5 q1 q2 k5 hA5 => ?_⟩
          refine ⟨_, rfl, _, rfl, ua, _, 2, _, rfl, rfl, SqT.of (k5.tup _ _ hu4), rfl, hd, ca, c, rfl, hA5, ⟨by omega, by omega⟩, fun x3 H6 q3 q4 k6 hA6 => ?_⟩
          refine ⟨_, rfl, _, rfl, hd, ca, many, rfl, hA6, ⟨by omega, by omega⟩, fun x4 H7 q5 q6 k7 hA7 => ⟨(by show 4 ≤ sizeLine; decide), fun t ht => ?_⟩⟩
          have k47 := (k5.trans k6).trans k7
          have r7 := k47.keep _ _ n3 r4.at_
          have lk : kvs.length ≤ j := by have h1 := congrArg List.length r4.ke; have h2 := r4.len; simp at h1; omega
          refine ⟨rd, _, rfl, DPut.t (k := keyI [0 + (j : Int), x2, x3, x4]) ((Ke.new ht).at r7) (by rw [upd_same]; rfl) (by rw [sizeLine_eq]; omega), ?_⟩
          exact ⟨⟨_, _, rfl⟩, ((k4.trans (k47.mono fun _ z => .inl z)).trans (Ke.new ht).ks).mut (.inr rfl) (fun ys z => by rw [(Ke.new ht).at r7] at z; cases z), (hA7.ke (Ke.new ht)).mut n3 n4, _, _, r4.put (one _ _ _ _ ⟨by omega, by omega⟩ ⟨q1, q2⟩ ⟨q3, q4⟩ ⟨q5, q6⟩)⟩
        · intro σ H4 z
          refine tail σ H4 ?_
          obtain ⟨z1, k4, hA4, kvs, ks, r4⟩ := z
          exact ⟨z1, k4, hA4, kvs, ks, r4.at_, r4.ke, r4.nd, r4.ok, by have := r4.len; omega⟩
      case cb =>
        exact tail _ _ ⟨⟨_, _, rfl⟩, k03, hA3, _, _, rd3.at_, rd3.ke, rd3.nd, rd3.ok, by decide⟩
      case tl =>
        rintro σ H4 ⟨⟨s6, s7, rfl⟩, k4, hA4, kvs, ks, r4⟩
        refine ⟨_, rfl, hd, ca, 3, rfl, hA4, ⟨by decide, by decide⟩, fun r1 H5 p1 p2 k5 hA5 => ⟨r1, rfl, by omega, by omega, ?_⟩⟩
        refine for_range (fun j σ H' => (∃ s6 s7, σ = [some (.ref hd), some (.ref ua), some (.int many), some (.ref f), some (.int (0 + (i : Nat))), some (.ref rd), s6, s7]) ∧ Ks (fun x => x = hd ∨ x = rd) H1 H' ∧ HandAt H' hd ca ∧ ∃ kvs ks, RD H' rd [a, b, c] many (4 + j) kvs ks)
          ⟨⟨_, _, rfl⟩, k4.trans (k5.mono fun _ z => .inl z), hA5, kvs, ks, { r4 with at_ := k5.keep _ _ n3 r4.at_ }⟩ ?_ ?_
        · rintro j σ H4 hj ⟨⟨s6, s7, rfl⟩, k4, hA4, kvs, ks, r4⟩
          have hu4 := k4.tup _ _ hu1
          refine ⟨_, rfl, _, rfl, ua, _, 0, _, rfl, rfl, SqT.of hu4, rfl, hd, ca, a, rfl, hA4, ⟨by omega, by omega⟩, fun x1 H5 q1 q2 k5 hA5 => ?_⟩
          have hu5 := k5.tup _ _ hu4
          refine ⟨_, rfl, _, rfl, _, rfl, _, rfl, ua, _, 1, _, rfl, rfl, SqT.of hu5, rfl, hd, ca, b, rfl, hA5, ⟨by omega, by omega⟩, fun x2 H6 q3 q4 k6 hA6 => ?_⟩
          refine ⟨_, rfl, _, rfl, ua, _, 2, _, rfl, rfl, SqT.of (k6.tup _ _ hu5), rfl, hd, ca, c, rfl, hA6, ⟨by omega, by omega⟩, fun x3 H7 q5 q6 k7 hA7 => ?_⟩
          refine ⟨_, rfl, _, rfl, hd, ca, many, rfl, hA7, ⟨by omega, by omega⟩, fun x4 H8 q7 q8 k8 hA8 => ⟨(by show 4 ≤ sizeLine; decide), fun t ht => ?_⟩⟩
          have k48 := ((k5.trans k6).trans k7).trans k8
          have r8 := k48.keep _ _ n3 r4.at_
          have lk : kvs.length ≤ 4 + j := by have h1 := congrArg List.length r4.ke; have h2 := r4.len; simp at h1; omega
          refine ⟨rd, _, rfl, DPut.t (k := keyI [x1, x2, x3, x4]) ((Ke.new ht).at r8) (by rw [upd_same]; rfl) (by rw [sizeLine_eq]; omega), ?_⟩
          exact ⟨⟨_, _, rfl⟩, ((k4.trans (k48.mono fun _ z => .inl z)).trans (Ke.new ht).ks).mut (.inr rfl) (fun ys z => by rw [(Ke.new ht).at r8] at z; cases z), (hA8.ke (Ke.new ht)).mut n3 n4, _, _, r4.put (one _ _ _ _ ⟨q1, q2⟩ ⟨q3, q4⟩ ⟨q5, q6⟩ ⟨q7, q8⟩)⟩
        · rintro σ H4 ⟨⟨s6, s7, rfl⟩, k4, hA4, kvs, ks, r4⟩
          have hf4 : H4 f = some (.lst ws) := k4.keep _ _ (fun z => z.elim n1 n5) hf1
          have lks : ks.length ≤ 6 := by have := r4.len; omega
          refine ⟨_, rfl, .inl ⟨rfl, _, SqL.of hf4⟩, _, rfl, rd, kvs, rfl, .inl r4.at_, fun p bs hp ik => ?_⟩
          have pk := isKeys_TI ik r4.ke
          have kp : Ke H4 (upd H4 p (.lst (bs.map V.ref))) := Ke.new hp
          refine ⟨p, _, List Int, TI (upd H4 p (.lst (bs.map V.ref))), tI, ks, rfl, SqL.of upd_same, pimp (fun v x r => TI.stb _ _ v x kp.tx r) pk, fun v x r => TI.enc K _ v x r, ok_T (fun m hm => ?_), fun p2 out hp2 po => ⟨p2, out, rfl, .inl ⟨SqL.of upd_same, fun t ht => ?_⟩⟩⟩
          · obtain ⟨_, _, _, _, _, _, _, _, rfl, _⟩ := r4.ok m hm
            simp
          have k5 := (kp.trans (Ke.new (o := .lst out) hp2)).trans (Ke.new (o := .tup out) ht)
          refine ⟨f, ws, _, rfl, rfl, k5.at hf4, ?_, ?_⟩
          · rw [plen pw, lmv, sizeLine_eq]; omega
          have tx := snoc_tx (ws := ws ++ [.ref t]) k5.tx hf4
          have t14 : Tx H1 H4 := k4.tx
          have kF : Ks (fun x => x = hd) H (upd (upd (upd (upd H4 p (.lst (bs.map V.ref))) p2 (.lst out)) t (.tup out)) f (.lst (ws ++ [.ref t]))) := by
            refine (Ks.comp k1 (k4.trans k5.ks) (U := fun x => x = hd) (fun _ z => z) (fun x z => z.elim .inl fun z => .inr (by rw [z]; exact k1.free hrd))).mutNew hf
          refine ⟨⟨_, _, _, _, rfl⟩, kF, (hA4.ke k5).mut n1 n2, _, mv ++ [sortT ks], upd_same, papp (pimp (fun v x r => TT.stb TI.stb _ _ v x (t14.trans tx) r) pw) (.cons ⟨t, out, rfl, ?_, ?_⟩ .nil), by rw [List.length_append, lmv]; rfl, fun r hr => ?_⟩
          · rw [upd_ne (ne_of (k5.at hf4) upd_same (fun z => nomatch z)).symm, upd_same]
          · exact pimp (fun v x r => TI.stb _ _ v x (((Ke.new (o := .lst out) hp2).tx.trans (Ke.new (o := .tup out) ht).tx).trans (snoc_tx .refl (k5.at hf4))) r) po
          · rcases List.mem_append.mp hr with z | z
            · exact rows r z
            · rw [List.mem_singleton.mp z]
              exact ⟨⟨fun m hm => r4.ok m (mem_sortT.mp hm), strict_sortT r4.nd, by rw [len_sortT]; omega⟩, by rw [len_sortT]; exact lks⟩
    · rintro σ H1 ⟨⟨s4, s5, s6, s7, rfl⟩, k1, hA1, ws, mv, hf1, pw, lmv, rows⟩
      refine ⟨_, rfl, f, ws, rfl, .inl ⟨SqL.of hf1, fun t ht => ?_⟩⟩
      exact k _ mv _ (k1.trans (Ke.new ht).ks) (hA1.ke (Ke.new ht)) ⟨t, ws, rfl, upd_same, pimp (fun v x r => TT.stb TI.stb _ _ v x (Ke.new ht).tx r) pw⟩ (by omega) rows
end
end Fd
set_option Elab.async false
set_option linter.all false
set_option maxRecDepth 100000
set_option maxHeartbeats 4000000
namespace Fd
open PySem PySem.Spec PyProof.Rows L2
def sp_lclos : Sp := fun xs H Q _ => ∃ hd ca u a b c many, xs = [.ref hd, u, .int many] ∧ HandAt H hd ca ∧ TI H u [a, b, c] ∧ (1 ≤ a ∧ a ≤ 4) ∧ (1 ≤ b ∧ b ≤ 4) ∧ (1 ≤ c ∧ c ≤ 4) ∧ (1 ≤ many ∧ many ≤ 20) ∧
  ∀ v cl H', Ks (fun x => x = hd) H H' → HandAt H' hd ca → CL H' v cl → ClosOk [a, b, c] many cl → (∀ r ∈ cl, r.length ≤ 4) → Q v H'
def sp_loffice (C : Addr) : Sp := fun xs H Q _ => ∃ hd ca u a b c most, xs = [.ref hd, u, .int most] ∧ HandAt H hd ca ∧ TI H u [a, b, c] ∧ (1 ≤ a ∧ a ≤ 4) ∧ (1 ≤ b ∧ b ≤ 4) ∧ (1 ≤ c ∧ c ≤ 4) ∧ (1 ≤ most ∧ most ≤ 20) ∧
  ∀ p (o : Ofc) H', o.sz = [a, b, c] → Good o.sz o.mv o.cl → (o.mv.length : Int) ≤ most → RowsOk o.sz o.mv.length o.mv → (∀ r ∈ o.cl, r.length ≤ 4) → Ks (fun x => x = hd) H H' → HandAt H' hd ca → OfAt C (Hd (fun x => x = hd) H') p o → Q (.ref p) H'
theorem good_sh {sz : List Int} {mv : List (List (List Int))} {cl : List (List Int)} (g : Good sz mv cl) : sz.length = 3 ∧ mv.length < 1000000 ∧ (Sizes sz → MovesSh sz mv ∧ ClosSh sz mv.length cl) := ⟨g.s.1, by have := g.m.2.1; omega, fun _ => ⟨⟨g.m.1, fun r hr => ⟨(g.m.2.2 r hr).1, (g.m.2.2 r hr).2.2⟩⟩, ⟨g.c.1, fun r hr => ⟨(g.c.2 r hr).1, (g.c.2 r hr).2.2⟩⟩⟩⟩
theorem good_bad {sz : List Int} {mv : List (List (List Int))} {cl : List (List Int)} (g : Good sz mv cl) {z : Str} (h : BadP sz mv cl z) : False := by
  rcases h with ⟨h, _⟩ | ⟨_, h, _⟩ | ⟨_, _, h, _⟩
  · exact h g.s
  · exact h g.m
  · exact h g.c
/-- an office of right data is made beside the hand -/
theorem mk_offX {C CB hd ca : Addr} {H : Hp} {u vm vc : V} {sz : List Int} {mv : List (List (List Int))} {cl : List (List Int)} {G : Addr → Hp → Prop} {E : XK} (hA : HandAt H hd ca) (hu : TI H u sz) (hm : TT (TT TI) H vm mv) (hc : TT TI H vc cl) (g : Good sz mv cl)
    (k : ∀ p H', Ks (fun x => x = hd) H H' → HandAt H' hd ca → OfAt C (Hd (fun x => x = hd) H') p ⟨sz, mv, cl⟩ → G p H') :
    ∀ x dx, H x = none → H dx = none → dx ≠ x → sp_initX C CB (.ref x :: ([u, vm, vc] ++ [])) (upd (upd H dx (.own x)) x (.ins C dx [])) (fun v H2 => v = .non ∧ G x H2) E := fun x dx hx hdx ndx => by
  have kA : Ke H (upd (upd H dx (.own x)) x (.ins C dx [])) := (Ke.new hdx).trans (Ke.new (by rw [upd_ne ndx.symm]; exact hx))
  have hA4 := hA.ke kA
  have x1 : x ≠ hd := fun z => hA.there.1 (by rw [← z]; exact hx)
  have txA : Tx H (Hd (fun y => y = hd) (upd (upd H dx (.own x)) x (.ins C dx []))) := kA.tx.trans hA4.tx
  obtain ⟨s1, s2, s3⟩ := good_sh g
  refine ⟨fun y => y = hd, x, dx, u, vm, vc, sz, mv, cl, rfl, upd_same, x1, fun y z => by rw [z]; exact hA4.there.1, TI.stb _ _ _ _ txA hu, TT.stb (TT.stb TI.stb) _ _ _ _ txA hm, TT.stb TI.stb _ _ _ _ txA hc, s1, s2, s3, fun z h => (good_bad g h).elim, fun _ H4 k4 o => ⟨rfl, ?_⟩⟩
  have kK : Ks (fun y => y = hd) H H4 := Ks.comp kA.ks k4 (fun _ z => z) fun y z => .inr (by rw [z]; exact hx)
  exact k x H4 kK (hA4.ks k4 (fun z => x1 z.symm) fun z => by
    have : x ≠ ca := fun z => hA.there.2 (by rw [← z]; exact hx)
    exact this z.symm) o
section
variable {P : Program} {w : World} {K : PySem.W.Frag} {mg : Str → Option Value} {base : Heap} (T : Txt K mg)
include T
theorem ok_l_closings : FnOk P w K mg base CX0 2 T.a_l_closings T.d_l_closings P_l_closings sp_lclos := by
  refine T.F_l_closings.ok sc_l_closings (fun vs H Q E h => ?_) (fun cdv A outer s H vs Q E hr h => ?_)
  · obtain ⟨hd, ca, u, a, b, c, many, rfl, _⟩ := h; rfl
  · obtain ⟨hd, ca, u, a, b, c, many, rfl, hA, ⟨ua, rfl, hu0⟩, ha, hb, hc, hm, k⟩ := h
    refine ⟨_, (pss_cons (ps_set (i := 3) sc_l_closings.nd rfl (Or.inl rfl) (pe_lst pa_nil))
  (pss_cons (ps_for PassesOwn.never rfl (pi_range1 rfl T.n_range (pa_cons (pv 2) pa_nil)) (pg_name (i := 4) sc_l_closings.nd rfl (Or.inl rfl)) (pss_one (ps_expr (pe_bm PySem.F.plainAttrs_list PySem.F.slot_list_append PySem.F.type_list_append mt_append (pv 3) (pa_cons (pe_callTy call_tuple_of (by rfl) T.n_tuple (by decide +kernel) (pa_cons (pe_lc (own := [("_law_mark", 5)]) rfl sc_l_closings.nd (pi_range1 rfl T.n_range (pa_cons (pe_ix ix_tup (pv 1) pe_int (fun _ _ => rfl)) pa_nil)) (blkOk_by (own := [("_law_mark", 5)]) (N := N_l_closings) (sc := defScope s_l_closings) (by decide +kernel)) (fun _ _ _ _ _ => (pg_name (i := 5) sc_l_closings.nd rfl (Or.inl rfl))) (fun _ _ _ _ _ => pts_one (pt_cmpR op_gt (pe_call (ok_l_draw T) (hr.mono (by decide)) rfl T.g_l_draw T.k_l_draw T.b_l_draw .nil pass0 (pa_cons (pv 0) (pa_cons pe_int pa_nil))) pe_int (nomark _))) (fun _ _ _ _ _ => (pv 5))) pa_nil)) pa_nil)))))
  (pss_one (ps_ret (pe_callTy call_tuple_of (by rfl) T.n_tuple (by decide +kernel) (pa_cons (pv 3) pa_nil)))))), ?_⟩
    refine ⟨by decide, fun f hf => ?_⟩
    have n1 : f ≠ hd := fun z => hA.there.1 (by rw [← z]; exact hf)
    have n2 : f ≠ ca := fun z => hA.there.2 (by rw [← z]; exact hf)
    refine ⟨_, rfl, many, rfl, by omega, by omega, for_range (fun i σ H' => (∃ s4 s5, σ = [some (.ref hd), some (.ref ua), some (.int many), some (.ref f), s4, s5]) ∧ Ks (fun x => x = hd) H H' ∧ HandAt H' hd ca ∧ ∃ ws cl, H' f = some (.lst ws) ∧ Paired (TI H') ws cl ∧ cl.length = i ∧ ∀ r ∈ cl, (∀ k ∈ r, 0 ≤ k ∧ k < c) ∧ r.Pairwise (· < ·) ∧ r.length ≤ 4)
      ⟨⟨_, _, rfl⟩, (Ke.new hf).ks, hA.ke (Ke.new hf), [], [], upd_same, .nil, rfl, (fun r hr => by cases hr)⟩ ?_ ?_⟩
    · rintro i σ H1 hi ⟨⟨s4, s5, rfl⟩, k1, hA1, ws, cl, hf1, pw, lcl, rows⟩
      have hu1 := k1.tup _ _ hu0
      refine ⟨_, rfl, .inl ⟨rfl, _, SqL.of hf1⟩, _, rfl, ua, _, 2, _, rfl, rfl, SqT.of hu1, rfl, c, rfl, by omega, by omega, fun D hD => ?_⟩
      have m1 : D ≠ hd := fun z => hA1.there.1 (by rw [← z]; exact hD)
      have m2 : D ≠ ca := fun z => hA1.there.2 (by rw [← z]; exact hD)
      have m3 : D ≠ f := (ne_of_none hf1 hD).symm
      refine lw_range (fun j H' => Ks (fun x => x = hd) H1 H' ∧ HandAt H' hd ca ∧ ∃ ms : List Int, H' D = some (.lst (ms.map V.int)) ∧ ms.Pairwise (· < ·) ∧ (∀ k ∈ ms, 0 ≤ k ∧ k < j) ∧ ms.length ≤ j) ⟨(Ke.new hD).ks, hA1.ke (Ke.new hD), [], upd_same, .nil, (fun _ z => nomatch z), Nat.le_refl _⟩ ?_ ?_
      · rintro j H2 hj ⟨k2, hA2, ms, hD2, asc, rg, lm⟩
        refine ⟨rfl, _, rfl, hd, ca, 3, rfl, hA2, ⟨by decide, by decide⟩, fun r H3 _ _ k3 hA3 => ⟨_, _, rfl, rfl, _, rfl, ite2 (fun _ => ?_) (fun _ => ?_)⟩⟩
        · have hD3 := k3.keep _ _ m1 hD2
          refine ⟨_, rfl, _, hD3, by rw [List.length_map, sizeLine_eq]; omega, (k2.trans k3).mutNew hD, hA3.mut m1 m2, ms ++ [(j : Int)], by rw [upd_same]; simp, ?_, fun x hx => ?_, by rw [List.length_append]; simp; omega⟩
          · rw [List.pairwise_append]
            exact ⟨asc, by simp, fun x hx y hy => by rw [List.mem_singleton.mp hy]; exact (rg x hx).2⟩
          · rcases List.mem_append.mp hx with z | z
            · have := rg x z; omega
            · rw [List.mem_singleton.mp z]; omega
        · exact ⟨k2.trans k3, hA3, ms, k3.keep _ _ m1 hD2, asc, fun x hx => by have := rg x hx; omega, by omega⟩
      · rintro H2 ⟨k2, hA2, ms, hD2, asc, rg, lm⟩
        have hf2 := k2.keep _ _ n1 hf1
        refine ⟨D, _, rfl, .inl ⟨SqL.of hD2, fun t ht => ⟨f, ws, _, rfl, rfl, (Ke.new ht).at hf2, by rw [plen pw, lcl, sizeLine_eq]; omega, ?_⟩⟩⟩
        have tx := snoc_tx (ws := ws ++ [.ref t]) (Ke.new (o := .tup (ms.map V.int)) ht).tx hf2
        refine ⟨⟨_, _, rfl⟩, ((k1.trans k2).trans (Ke.new ht).ks).mutNew hf, (hA2.ke (Ke.new ht)).mut n1 n2, _, cl ++ [ms], upd_same, papp (pimp (fun v x r => TI.stb _ _ v x (k2.tx.trans tx) r) pw) (.cons ⟨t, rfl, ?_⟩ .nil), by rw [List.length_append, lcl]; rfl, fun r hr => ?_⟩
        · rw [upd_ne (ne_of ((Ke.new (o := .tup (ms.map V.int)) ht).at hf2) upd_same (fun z => nomatch z)).symm, upd_same]
        · rcases List.mem_append.mp hr with z | z
          · exact rows r z
          · rw [List.mem_singleton.mp z]
            exact ⟨fun k hk => by have := rg k hk; omega, asc, by omega⟩
    · rintro σ H1 ⟨⟨s4, s5, rfl⟩, k1, hA1, ws, cl, hf1, pw, lcl, rows⟩
      refine ⟨_, rfl, f, ws, rfl, .inl ⟨SqL.of hf1, fun t ht => ?_⟩⟩
      refine k _ cl _ (k1.trans (Ke.new ht).ks) (hA1.ke (Ke.new ht)) ⟨t, ws, rfl, upd_same, pimp (fun v x r => TI.stb _ _ v x (Ke.new ht).tx r) pw⟩ ⟨by omega, fun r hr => ⟨fun k hk => ⟨a, b, c, rfl, ?_⟩, (rows r hr).2.1, by have := (rows r hr).2.2; omega⟩⟩ fun r hr => (rows r hr).2.2
      have := (rows r hr).1 k hk
      omega
end
section
variable {P : Program} {w : World} {K : PySem.W.Frag} {mg : Str → Option Value} {base : Heap} (T : Txt K mg) (Er : Err P K mg) (htop : (P.main.scope.names.lookup ("super" : Str)).isSome = false)
include T Er htop
theorem ok_l_office_ : FnOk P w K mg base CX0 7 T.a_l_office T.d_l_office P_l_office (sp_loffice T.a_Office) := by
  refine T.F_l_office.ok sc_l_office (fun vs H Q E h => ?_) (fun cdv A outer s H vs Q E hr h => ?_)
  · obtain ⟨hd, ca, u, a, b, c, most, rfl, _⟩ := h; rfl
  · obtain ⟨hd, ca, u, a, b, c, most, rfl, hA, hu0, ha, hb, hc, hm, k⟩ := h
    refine ⟨_, (pss_cons (ps_set (i := 3) sc_l_office.nd rfl (Or.inl rfl) (pe_op op_add pe_int (pe_call (ok_l_draw T) (hr.mono (by decide)) rfl T.g_l_draw T.k_l_draw T.b_l_draw .nil pass0 (pa_cons (pv 0) (pa_cons (pv 2) pa_nil)))))
  (pss_one (ps_ret (pe_make T.m_Office (ok_Office_init T Er htop) (hr.mono (by decide)) rfl T.g_Office T.b_Office_init .nil passL (pa_cons (pv 1) (pa_cons (pe_call (ok_l_moves T) (hr.mono (by decide)) rfl T.g_l_moves T.k_l_moves T.b_l_moves .nil pass0 (pa_cons (pv 0) (pa_cons (pv 1) (pa_cons (pv 3) pa_nil)))) (pa_cons (pe_call (ok_l_closings T) (hr.mono (by decide)) rfl T.g_l_closings T.k_l_closings T.b_l_closings .nil pass0 (pa_cons (pv 0) (pa_cons (pv 1) (pa_cons (pv 3) pa_nil)))) pa_nil))))))), ?_⟩
    refine ⟨_, rfl, _, rfl, hd, ca, most, rfl, hA, ⟨by omega, by omega⟩, fun r H1 r1 r2 k1 hA1 => ⟨_, _, rfl, rfl, ?_⟩⟩
    refine ⟨_, rfl, _, rfl, _, rfl, _, rfl, hd, ca, u, a, b, c, 1 + r, rfl, hA1, TI.stb _ _ _ _ k1.tx hu0, ha, hb, hc, ⟨by omega, by omega⟩, fun vm mv H2 k2 hA2 hm2 lm rows => ?_⟩
    refine ⟨_, rfl, _, rfl, _, rfl, hd, ca, u, a, b, c, 1 + r, rfl, hA2, TI.stb _ _ _ _ (k1.tx.trans k2.tx) hu0, ha, hb, hc, ⟨by omega, by omega⟩, fun vc cl H3 k3 hA3 hc3 cok c4 => ?_⟩
    have gd : Good [a, b, c] mv cl := by
      refine ⟨⟨rfl, fun z hz => ?_⟩, ⟨by omega, by omega, fun r' hr' => ?_⟩, ?_⟩
      · simp only [List.mem_cons, List.mem_nil_iff, or_false] at hz
        rcases hz with rfl | rfl | rfl <;> omega
      · rw [lm]; exact (rows r' hr').1
      · rw [lm]; exact cok
    refine mk_offX hA3 (TI.stb _ _ _ _ ((k1.tx.trans k2.tx).trans k3.tx) hu0) (TT.stb (TT.stb TI.stb) _ _ _ _ k3.tx hm2) hc3 gd fun p H4 k4 hA4 of4 => ?_
    exact k p ⟨[a, b, c], mv, cl⟩ H4 rfl gd (by show (mv.length : Int) ≤ most; omega) (by show RowsOk [a, b, c] (mv.length : Int) mv; rw [lm]; exact rows) c4 ((k1.trans (k2.trans k3)).trans k4) hA4 of4
end
end Fd
set_option Elab.async false
set_option linter.all false
set_option maxRecDepth 100000
set_option maxHeartbeats 4000000
namespace Fd
open PySem PySem.Spec PyProof.Rows L2
theorem ptake {α β : Type} {F : α → β → Prop} : ∀ {l : List α} {m : List β} (n : Nat), Paired F l m → Paired F (l.take n) (m.take n)
  | _, _, 0, _ => by rw [List.take_zero, List.take_zero]; exact .nil
  | _, _, n + 1, .nil => .nil
  | _, _, n + 1, .cons h t => .cons h (ptake n t)
theorem pdrop {α β : Type} {F : α → β → Prop} : ∀ {l : List α} {m : List β} (n : Nat), Paired F l m → Paired F (l.drop n) (m.drop n)
  | _, _, 0, p => p
  | _, _, n + 1, .nil => .nil
  | _, _, n + 1, .cons h t => pdrop n t
/-- what t[lo:hi] holds -/
def cutX {α : Type} (xs : List α) (lo hi : Option Int) : List α := (xs.drop (HT.sIx xs.length 0 lo)).take (HT.sIx xs.length xs.length hi - HT.sIx xs.length 0 lo)
theorem sl_row {K : PySem.W.Frag} {α : Type} {R : Rl α} (st : Stb R) {H : Hp} {v : V} {xs : List α} {lo hi : Option Int} {Q : VK} (hv : TT R H v xs) (k : ∀ v' H', Ke H H' → TT R H' v' (cutX xs lo hi) → Q v' H') : rSlA K v lo hi H Q := by
  obtain ⟨a, vs, rfl, ha, p⟩ := hv
  have el := plen p
  refine ⟨a, vs, rfl, SqT.of ha, fun z => k _ _ .refl ⟨a, vs, rfl, ha, ?_⟩, fun _ q hq => k _ _ (Ke.new hq) ⟨q, _, rfl, upd_same, ?_⟩⟩
  · rw [el] at z
    unfold cutX
    rw [z.1, z.2, List.drop_zero, Nat.sub_zero, List.take_length]
    exact p
  · unfold cutV cutX
    rw [el]
    exact ptake _ (pdrop _ (pimp (fun v x r => st _ _ v x (Ke.new hq).tx r) p))
theorem cut_to {α : Type} (xs : List α) (i : Nat) : cutX xs none (some (i : Int)) = xs.take i := by
  unfold cutX
  rw [HT.sIx_none, HT.sIx_nat, List.drop_zero, Nat.sub_zero]
  rcases Nat.le_total i xs.length with h | h
  · rw [Nat.min_eq_left h]
  · rw [Nat.min_eq_right h, List.take_length, List.take_of_length_le h]
theorem cut_from {α : Type} (xs : List α) (i : Nat) : cutX xs (some (i : Int)) none = xs.drop i := by
  unfold cutX
  rw [HT.sIx_none, HT.sIx_nat]
  rcases Nat.le_total i xs.length with h | h
  · rw [Nat.min_eq_left h, List.take_of_length_le (by rw [List.length_drop]; omega)]
  · rw [Nat.min_eq_right h, List.drop_of_length_le h, List.drop_length]; simp
theorem cat_row {K : PySem.W.Frag} {α : Type} {R : Rl α} (st : Stb R) {H : Hp} {x y : V} {xs ys : List α} {Q : VK} (hx : TT R H x xs) (hy : TT R H y ys) (hl : xs.length + ys.length < 2000000) (k : ∀ v' H', Ke H H' → TT R H' v' (xs ++ ys) → Q v' H') : rCatA K x y H Q := by
  obtain ⟨a, vs, rfl, ha, p⟩ := hx
  obtain ⟨b, ws, rfl, hb, q⟩ := hy
  have e1 := plen p
  have e2 := plen q
  refine ⟨a, b, vs, ws, rfl, rfl, SqT.of ha, SqT.of hb, by rw [sizeLine_eq]; omega, fun z => k _ _ .refl ?_, fun _ z => k _ _ .refl ?_, fun _ _ r hr => k _ _ (Ke.new hr) ?_⟩
  · have : xs = [] := List.length_eq_zero_iff.mp (by rw [← e1, z]; rfl)
    rw [this]; exact ⟨b, ws, rfl, hb, q⟩
  · have : ys = [] := List.length_eq_zero_iff.mp (by rw [← e2, z]; rfl)
    rw [this, List.append_nil]; exact ⟨a, vs, rfl, ha, p⟩
  · exact ⟨r, _, rfl, upd_same, papp (pimp (fun v x h => st _ _ v x (Ke.new hr).tx h) p) (pimp (fun v x h => st _ _ v x (Ke.new hr).tx h) q)⟩
theorem seqJ {t u : TS} {D : Ends} {σ : L2.St} {H : Hp} (P : L2.St → Hp → Prop) (k : ∀ nx : L2.St → Hp → Prop, (∀ σ' H', P σ' H' → nx σ' H') → t { D with nx := nx } σ H) (h : ∀ σ' H', P σ' H' → u D σ' H') : tSeq t u D σ H := k (u D) h
theorem stepN {i : Nat} {v : V} {σ : L2.St} {H : Hp} {Q : L2.St → Hp → Prop} (h : Q (σ.set i (some v)) H) : gName i v σ H Q := h
theorem stepT {σ : L2.St} {H : Hp} {D : Ends} (h : D.nx σ H) : tNext D σ H := h
theorem stepA {i : Nat} {v : V} {u : TS} {D : Ends} {σ : L2.St} {H : Hp} (h : u D (σ.set i (some v)) H) : tSeq (tAsg (tC v) (gName i)) u D σ H := h
theorem seqJA {e : TE} {g : TG} {u : TS} {D : Ends} {σ : L2.St} {H : Hp} (P : L2.St → Hp → Prop) (k : ∀ nx : L2.St → Hp → Prop, (∀ σ' H', P σ' H' → nx σ' H') → tAsg e g { D with nx := nx } σ H) (h : ∀ σ' H', P σ' H' → u D σ' H') : tSeq (tAsg e g) u D σ H := k (u D) h
theorem seqJI {c : L2.TT} {a b u : TS} {D : Ends} {σ : L2.St} {H : Hp} (P : L2.St → Hp → Prop) (k : ∀ nx : L2.St → Hp → Prop, (∀ σ' H', P σ' H' → nx σ' H') → tIfS c a b { D with nx := nx } σ H) (h : ∀ σ' H', P σ' H' → u D σ' H') : tSeq (tIfS c a b) u D σ H := k (u D) h
theorem MoveOk.mono {sz : List Int} {n m : Int} {x : List Int} (h : MoveOk sz n x) (hn : n ≤ m) : MoveOk sz m x := by
  obtain ⟨a, b, c, s, t, k, g, e, e2, h1, h2, h3, h4, h5⟩ := h
  exact ⟨a, b, c, s, t, k, g, e, e2, h1, h2, h3, h4, by omega⟩
theorem sorted_sortI (bs : List Int) : (sortI bs).Pairwise (· ≤ ·) := by
  unfold sortI
  rw [le_int]
  have h := List.pairwise_mergeSort (le := fun (p q : Int) => decide (p ≤ q)) (fun a b c h1 h2 => by
    have h1' := of_decide_eq_true h1
    have h2' := of_decide_eq_true h2
    exact decide_eq_true (Int.le_trans h1' h2')) (fun a b => by
    rcases Int.le_total a b with h | h
    · simp [h]
    · simp [h]) bs
  exact h.imp fun q => of_decide_eq_true q
theorem perm_sortI (bs : List Int) : (sortI bs).Perm bs := List.mergeSort_perm bs _
theorem iteF' {c A B : Prop} [Decidable c] (h : ¬ c) (k : B) : if c then A else B := by rw [if_neg h]; exact k
theorem iteT' {c A B : Prop} [Decidable c] (h : c) (k : A) : if c then A else B := by rw [if_pos h]; exact k
theorem inV_int {x : Int} : ∀ ns : List Int, inV (.int x) (ns.map V.int) = decide (x ∈ ns)
  | [] => by simp [inV]
  | n :: ns => by
    have ih := inV_int (x := x) ns
    unfold inV at ih ⊢
    rw [List.map_cons, List.any_cons, ih]
    show ((n == x) || _) = _
    by_cases c : n = x
    · simp [c]
    · have c' : ¬ x = n := fun z => c z.symm
      simp [c, c']
theorem flat_int (ns : List Int) : (ns.map V.int).all flatV = true := by
  rw [List.all_map]; exact List.all_eq_true.mpr fun _ _ => rfl
theorem nilA {σ : L2.St} {H : Hp} {k : List V → Hp → Prop} (h : k [] H) : tNil σ H k := h
theorem tI_sets {α : Type} {xs : List α} {n : Nat} {x : α} (h : n < xs.length) : xs.take n ++ [x] ++ xs.drop (n + 1) = xs.set n x := by
  rw [List.set_eq_take_append_cons_drop, if_pos h, List.append_assoc]; rfl
end Fd
set_option Elab.async false
set_option linter.all false
set_option maxRecDepth 100000
set_option maxHeartbeats 4000000
/-! sorted of a tuple of data. -/
namespace Fd
open PySem PySem.Spec PySem.Calls PyProof PyProof.Rows L2 PySem.W
section
variable {prog : Program} {w : World} {A : Around} {E : Value → Shared → Prop} {s : Shared}
theorem collect_tup {l : Addr} {vs : List Value} {Q : List Value → Shared → Prop} (hl : IsTup s.heap l vs.toArray)
    (h : Q vs { s with heap := (s.heap.push (seqObj "list" #[] 0)).update s.heap.objs.size (Obj.mapSeq (· ++ vs.toArray)) }) (hsz : vs.length ≤ sizeLine) :
    wpAny (model prog w) A (collect (.ref l)) Q E s := by
  obtain ⟨o, ho, hc, n, hd⟩ := id hl
  unfold collect
  refine wpAny_bind (wpAny_runValue (codeAny_builtin entry_proto_collect' ?_))
  show wpAny _ _ (do again (.builtin "list.__iadd__" ⟨[← newList [], .ref l], []⟩)) _ _ s
  refine wpAny_bind (wpAny_newList (wpAny_pure ⟨Code.quiet_builtin _ (by decide +kernel), codeAny_builtin entry_list_iadd' ?_⟩))
  show wpAny _ _ (Builtin.List.listExtendWith (.ref s.heap.objs.size) (.ref l) (.ref s.heap.objs.size)) _ _ { s with heap := s.heap.push (seqObj "list" #[] 0) }
  unfold Builtin.List.listExtendWith
  have ho' : (s.heap.push (seqObj "list" #[] 0)).get? l = some o := Heap.get?_push_of_some _ ho
  refine wpAny_bind (wpAny_typeOf (T := "tuple") ⟨o, ho', hc⟩ ?_)
  have ht : (Value.type "tuple" == Value.type "tuple") = true := by rfl
  rw [if_pos (by rw [ht]; simp)]
  refine wpAny_bind (listItems_at ho' hd ?_)
  refine wpAny_bind (listItems_at (xs := #[]) (n := 0) (Heap.get?_push_size _ rfl) rfl ?_)
  rw [if_neg (by simp)]
  refine wpAny_bind (listUpdate_at (xs := #[]) (n := 0) (Heap.get?_push_size _ rfl) rfl ?_ (Nat.zero_le _) (by show (#[] ++ vs.toArray).size ≤ sizeLine + 1; simp only [Array.size_append, List.size_toArray, List.length_nil]; omega))
  refine wpAny_pure ?_
  show wpAny (model prog w) A (do
      let o ← load s.heap.objs.size
      match o.data with
      | .seq xs _ => pure xs.toList
      | _ => unsupported "internal:collect") Q E { s with heap := (s.heap.push (seqObj "list" #[] 0)).update s.heap.objs.size (Obj.mapSeq (· ++ vs.toArray)) }
  refine wpAny_bind (wpAny_load (get?_update_seq (Heap.get?_push_size _ rfl) _) ?_)
  show wpAny _ _ (pure ((#[] : Array Value) ++ vs.toArray).toList) Q E _
  rw [show ((#[] : Array Value) ++ vs.toArray).toList = vs by simp]
  exact wpAny_pure h
theorem sortedT_data {β : Type} {bs : List β} {enc : β → PyData} {R : Value → β → Prop} {vs : List Value} {l : Addr} {Q : Value → Shared → Prop} (hl : IsTup s.heap l vs.toArray) (e : EachIs R vs bs) (er : EachIs (fun v b => ∃ as, Reads s.heap v (enc b) as) vs bs) (hal : AllAlike (bs.map enc)) (hk : Sortable (bs.map enc)) (hL : bs.length ≤ sizeLine)
    (hu : ∀ b, b ∈ bs → A.units + 2 + (enc b).depth < cLine) (h : ∀ out, out.length = bs.length → EachIs R out (bs.mergeSort (dataLe false enc)) → Q (.ref (s.heap.objs.size + 1)) { s with heap := sortedAll s.heap vs (List.toArray out) }) :
    wpAny (model prog w) A (call (.builtin "sorted") [.ref l]) Q E s := by
  have hLv : vs.length ≤ sizeLine := by rw [e.length]; exact hL
  have er' : EachIs (fun v b => ∃ as, Reads (sortingHeap (copyHeap s.heap vs) (s.heap.objs.size + 1) vs) v (enc b) as) vs bs := er.mono fun _ _ ⟨as, r⟩ => ⟨as, PyProof.Rows.Reads.keeps (fun _ _ => sorting_copy_old) r⟩
  refine call_function_entry kind_sorted plain_sorted entry_sorted (args_sorted1 _) ?_
  unfold Builtin.«sorted»
  refine wpAny_bind (m := checkCount "sorted" 1 1 _) (wpAny_pure ?_)
  refine wpAny_bind (collect_tup hl ?_ hLv)
  refine wpAny_bind (wpAny_newList ?_ hLv)
  have hsz : ((s.heap.push (seqObj "list" #[] 0)).update s.heap.objs.size (Obj.mapSeq (· ++ vs.toArray))).objs.size = s.heap.objs.size + 1 := by
    rw [Heap.size_update, size_push']
  show wpAny _ _ _ _ _ { s with heap := copyHeap s.heap vs }
  rw [hsz]
  refine wpAny_bind (wpAny_holding (wpAny_call_entry slot_list_sort ⟨_, copyHeap_at s.heap vs, rfl⟩ entry_list_sort
    (list_sort_vals (s := { s with heap := copyHeap s.heap vs }) (copyHeap_at s.heap vs)
      (SortsAt.data (s := { s with heap := sortingHeap (copyHeap s.heap vs) (s.heap.objs.size + 1) vs }) (each_map (R := fun v d => ∃ as, Reads (sortingHeap (copyHeap s.heap vs) (s.heap.objs.size + 1) vs) v d as) enc er') hal hk (bound_map hu)) hLv ⟨_, rfl, ?_⟩) (args_list_sort _)))
  exact wpAny_pure ⟨_, rfl, h _ (by rw [sortVals_length false rfl]; exact e.length) (sortVals_data false e er' hal)⟩
end
/-- sorted(t) of a tuple of data -/
def rSortU (K : Frag) : List V → Hp → VK → Prop := fun xs H Q => ∃ (a : Addr) (vs : List V) (β : Type) (R : V → β → Prop) (enc : β → PyData) (bs : List β), xs = [.ref a] ∧ SqT K H a vs ∧ Paired R vs bs ∧ (∀ v b, R v b → Dp K H v (enc b)) ∧ SortOk enc bs ∧
  ∀ p out, H p = none → Paired R out (bs.mergeSort (dataLe false enc)) → Q (.ref p) (upd H p (.lst out))
theorem cr_sortedU {X : Cx} {k : Nat} (hr : Room k X.A) : CallR X (.builtin "sorted") (rSortU X.K) := by
  intro pins s σ H xs us Q I r h
  obtain ⟨a, vs, β, R, enc, bs, rfl, hs, pr, hd, ok, q⟩ := h
  obtain ⟨its, rv, hl, hz⟩ := I.tuple hs
  obtain ⟨u, rfl, ru⟩ := vals1 r
  obtain rfl : u = Value.ref a := ru
  have hlen : bs.length ≤ sizeLine := by rw [← plen pr]; exact hz
  have E := each_of rv pr
  refine sortedT_data hl E (E.mono fun u b ⟨v, r1, r2⟩ => Dp.reads I (enc b) v u (hd v b r2) r1) ok.al ok.so hlen (fun b hb => ?_) fun out ho eo => ?_
  · have := ok.dp b hb
    have := hr.un
    show X.A.units + 2 + _ < _
    omega
  · obtain ⟨c, hc⟩ := sortedAll_at s.heap its out.toArray
    obtain ⟨ws, w1, w2⟩ := each_back eo
    have hw : ws.length ≤ sizeLine := by rw [w1.length, ho]; exact hlen
    have ob : ObjOk X.prog X.w (upd H (s.heap.objs.size + 1) (.lst ws)) (sortedAll s.heap its out.toArray) (s.heap.objs.size + 1) (.lst ws) := ⟨hw, out, c, w1, hc⟩
    exact ⟨.ref (s.heap.objs.size + 1), _, I.laid (t' := s.toks) (fun b o e => sortedAll_old e) (Nat.le_succ _) ob, rfl, q _ ws (I.hok.fresh (Nat.le_succ _)) w2⟩
end Fd
set_option Elab.async false
set_option linter.all false
set_option maxRecDepth 100000
set_option maxHeartbeats 4000000
namespace Fd
open PySem PySem.Spec PyProof.Rows L2
def sp_exchanged : Sp := fun xs H Q _ => ∃ (α : Type) (R : Rl α) (v vr : V) (n : Nat) (rs : List α) (r : α), xs = [v, .int n, vr] ∧ Stb R ∧ TT R H v rs ∧ R H vr r ∧ n < rs.length ∧ rs.length < 1000000 ∧ ∀ v' H', Ke H H' → TT R H' v' (rs.set n r) → Q v' H'
def sp_with_item : Sp := fun xs H Q _ => ∃ v x, xs = [v, x] ∧ ((∃ rs m, TT TI H v rs ∧ TI H x m ∧ rs.length < 1000000 ∧ (∀ b ∈ rs, b ≠ []) ∧ m ≠ [] ∧ ∀ v' H', Ke H H' → TT TI H' v' (sortT (rs ++ [m])) → Q v' H') ∨
  ∃ ks k, TI H v ks ∧ x = .int k ∧ ks.length < 1000000 ∧ ∀ v' H', Ke H H' → TI H' v' (sortI (ks ++ [k])) → Q v' H')
section
variable {P : Program} {w : World} {K : PySem.W.Frag} {mg : Str → Option Value} {base : Heap} (T : Txt K mg)
include T
theorem ok_exchanged : FnOk P w K mg base CX0 1 T.a_exchanged T.d_exchanged P_exchanged sp_exchanged := by
  refine T.F_exchanged.ok sc_exchanged (fun vs H Q E h => ?_) (fun cdv A outer s H vs Q E hr h => ?_)
  · obtain ⟨α, R, v, vr, n, rs, r, rfl, _⟩ := h; rfl
  · obtain ⟨α, R, v, vr, n, rs, r, rfl, st, hv, hr', hn, hl, k⟩ := h
    refine ⟨_, (pss_one (ps_ret (pe_op op_catA (pe_op op_catA (pe_slice sl_tupA (pv 0) po_none (po_some (pv 1))) (pe_tup (pa_cons (pv 2) pa_nil))) (pe_slice sl_tupA (pv 0) (po_some (pe_op op_add (pv 1) pe_int)) po_none)))), ?_⟩
    refine ⟨_, rfl, _, rfl, _, rfl, sl_row st hv fun v1 H1 k1 h1 => ?_⟩
    rw [cut_to] at h1
    refine ⟨_, rfl, (by show 1 ≤ sizeLine; decide), fun t ht => ?_⟩
    have kt : Ke H1 (upd H1 t (.tup [vr])) := Ke.new ht
    refine cat_row st (TT.stb st _ _ _ _ kt.tx h1) (⟨t, [vr], rfl, upd_same, .cons (st _ _ _ _ (k1.trans kt).tx hr') .nil⟩ : TT R _ _ [r]) (by rw [List.length_take]; simp; omega) fun v2 H2 k2 h2 => ?_
    refine ⟨_, rfl, _, rfl, _, _, rfl, rfl, _, rfl, ?_⟩
    have ej : (n : Int) + 1 = ((n + 1 : Nat) : Int) := by omega
    rw [ej]
    unfold tNoPart
    refine sl_row st (TT.stb st _ _ _ _ ((k1.trans kt).trans k2).tx hv) fun v3 H3 k3 h3 => ?_
    rw [cut_from] at h3
    refine cat_row st (TT.stb st _ _ _ _ k3.tx h2) h3 (by rw [List.length_append, List.length_take, List.length_drop]; simp; omega) fun v4 H4 k4 h4 => ?_
    rw [tI_sets hn] at h4
    exact k _ _ ((((k1.trans kt).trans k2).trans k3).trans k4) h4
theorem ok_with_item : FnOk P w K mg base CX0 1 T.a_with_item T.d_with_item P_with_item sp_with_item := by
  refine T.F_with_item.ok sc_with_item (fun vs H Q E h => ?_) (fun cdv A outer s H vs Q E hr h => ?_)
  · obtain ⟨v, x, rfl, _⟩ := h; rfl
  · obtain ⟨v, x, rfl, h⟩ := h
    refine ⟨_, (pss_one (ps_ret (pe_callTy call_tuple_of (by rfl) T.n_tuple (by decide +kernel) (pa_cons (pe_callB (cr_sortedU hr) (by rfl) T.n_sorted (by decide +kernel) (pa_cons (pe_op op_catA (pv 0) (pe_tup (pa_cons (pv 1) pa_nil))) pa_nil)) pa_nil)))), ?_⟩
    refine ⟨_, rfl, _, rfl, (by show 1 ≤ sizeLine; decide), fun t ht => ?_⟩
    have kt : Ke H (upd H t (.tup [x])) := Ke.new ht
    rcases h with ⟨rs, m, hv, hx, hl, hne, hm, k⟩ | ⟨ks, kk, hv, rfl, hl, k⟩
    · refine cat_row TI.stb (TT.stb TI.stb _ _ _ _ kt.tx hv) (⟨t, [x], rfl, upd_same, .cons (TI.stb _ _ _ _ kt.tx hx) .nil⟩ : TT TI _ _ [m]) (by simp; omega) fun v2 H2 k2 h2 => ?_
      obtain ⟨a, vs, rfl, ha, pv⟩ := h2
      refine nilA ⟨a, vs, List Int, TI H2, tI, rs ++ [m], rfl, SqT.of ha, pv, fun v b r => TI.enc K H2 v b r, ok_T (fun b hb => ?_), fun p out hp po => nilA ⟨p, out, rfl, .inl ⟨SqL.of upd_same, fun t2 ht2 => ?_⟩⟩⟩
      · rcases List.mem_append.mp hb with z | z
        · exact hne b z
        · rw [List.mem_singleton.mp z]; exact hm
      · refine k _ _ (((kt.trans k2).trans (Ke.new hp)).trans (Ke.new ht2)) ⟨t2, out, rfl, upd_same, pimp (fun v x r => TI.stb _ _ v x ((Ke.new hp).trans (Ke.new ht2)).tx r) po⟩
    · refine cat_row (xs := ks) (ys := [kk]) II.stb (TI.tt.mp (TI.stb _ _ _ _ kt.tx hv)) (TI.tt.mp ⟨t, rfl, upd_same⟩) (by simp; omega) fun v2 H2 k2 h2 => ?_
      obtain ⟨a, rfl, ha⟩ := TI.tt.mpr h2
      refine nilA ⟨a, _, Int, II H2, PyData.int, ks ++ [kk], rfl, SqT.of ha, pmap_int _, fun v b r => II.enc K H2 v b r, ok_I, fun p out hp po => nilA ⟨p, out, rfl, .inl ⟨SqL.of upd_same, fun t2 ht2 => ?_⟩⟩⟩
      refine k _ _ (((kt.trans k2).trans (Ke.new hp)).trans (Ke.new ht2)) ⟨t2, rfl, ?_⟩
      rw [upd_same, paired_int (H := H2) po]
      rfl
end
end Fd
set_option Elab.async false
set_option linter.all false
set_option maxRecDepth 100000
set_option maxHeartbeats 4000000
namespace Fd
open PySem PySem.Spec PyProof.Rows L2
/-! ### the shop -/
def shF (q l : V) : List (Str × V) := putF "kept_past" l (putF "kept_now" q [])
theorem shF_n {q l : V} : (shF q l).lookup ("kept_now" : Str) = some q := by rfl
theorem shF_p {q l : V} : (shF q l).lookup ("kept_past" : Str) = some l := by rfl
theorem shF_put {q q' l : V} : putF "kept_now" q' (shF q l) = shF q' l := by rfl
/-- a thing that is no integer, and stays none -/
def NI (K : PySem.W.Frag) (H : Hp) (v : V) : Prop := ∀ H', Ke H H' → IsI K H' v false
theorem NI.ke {K : PySem.W.Frag} {H H' : Hp} {v : V} (h : NI K H v) (k : Ke H H') : NI K H' v := fun H2 k2 => h H2 (k.trans k2)
/-- whether a thing lies within, now and later -/
def IsV (K : PySem.W.Frag) (H : Hp) (v : V) (a b : Int) (r : Bool) : Prop := (∃ n, v = .int n ∧ r = decide (a ≤ n ∧ n ≤ b)) ∨ (NI K H v ∧ r = false)
theorem IsV.w {K : PySem.W.Frag} {H H' : Hp} {v : V} {a b : Int} {r : Bool} (h : IsV K H v a b r) (k : Ke H H') : IsW K H' v a b r := h.imp id fun ⟨x, y⟩ => ⟨x H' k, y⟩
theorem IsV.ke {K : PySem.W.Frag} {H H' : Hp} {v : V} {a b : Int} {r : Bool} (h : IsV K H v a b r) (k : Ke H H') : IsV K H' v a b r := h.imp id fun ⟨x, y⟩ => ⟨x.ke k, y⟩
theorem IsV.int {K : PySem.W.Frag} {H : Hp} {v : V} {a b : Int} (h : IsV K H v a b true) : ∃ n, v = .int n ∧ a ≤ n ∧ n ≤ b := by
  rcases h with ⟨n, e, h⟩ | ⟨_, h⟩
  · exact ⟨n, e, of_decide_eq_true h.symm⟩
  · cases h
def S3 (hd p l : Addr) : Addr → Prop := fun a => a = hd ∨ a = p ∨ a = l
/-- an office that stands beside the hand and the shop -/
def Std (K : PySem.W.Frag) (S : Addr → Prop) (H : Hp) (v : V) (o : Ofc) : Prop := ∃ q C, v = .ref q ∧ OC K C ∧ OfAt C (Hd S H) q o
theorem Std.ks {K : PySem.W.Frag} {S : Addr → Prop} {H H' : Hp} {v : V} {o : Ofc} (x : Std K S H v o) (k : Ks S H H') : Std K S H' v o := by
  obtain ⟨q, C, e, oc, of⟩ := x
  exact ⟨q, C, e, oc, of.ke (Hd.ke k)⟩
structure SH (K : PySem.W.Frag) (CS hd ca p l : Addr) (H : Hp) (o : Ofc) (os : List Ofc) : Prop where
  hA : HandAt H hd ca
  n1 : p ≠ hd
  n2 : l ≠ hd
  n3 : p ≠ ca
  n4 : l ≠ ca
  n5 : p ≠ l
  ex : ∃ dx q past, H p = some (.ins CS dx (shF q (.ref l))) ∧ H l = some (.lst past) ∧ Std K (S3 hd p l) H q o ∧ Paired (Std K (S3 hd p l) H) past os
theorem SH.ks {K : PySem.W.Frag} {CS hd ca p l : Addr} {H H' : Hp} {o : Ofc} {os : List Ofc} (x : SH K CS hd ca p l H o os) (k : Ks (fun a => a = hd) H H') (h : HandAt H' hd ca) : SH K CS hd ca p l H' o os := by
  obtain ⟨dx, q, past, h1, h2, h3, h4⟩ := x.ex
  have k' : Ks (S3 hd p l) H H' := k.mono fun _ z => .inl z
  exact ⟨h, x.n1, x.n2, x.n3, x.n4, x.n5, dx, q, past, k.keep _ _ x.n1 h1, k.keep _ _ x.n2 h2, h3.ks k', pimp (fun v o r => r.ks k') h4⟩
theorem SH.ke {K : PySem.W.Frag} {CS hd ca p l : Addr} {H H' : Hp} {o : Ofc} {os : List Ofc} (x : SH K CS hd ca p l H o os) (k : Ke H H') : SH K CS hd ca p l H' o os := x.ks k.ks (x.hA.ke k)
/-- where the shop's office lies -/
theorem SH.at {K : PySem.W.Frag} {CS hd ca p l : Addr} {H : Hp} {o : Ofc} {os : List Ofc} (x : SH K CS hd ca p l H o os) : ∃ dx q past C dxo vs vm vc vk, H p = some (.ins CS dx (shF (.ref q) (.ref l))) ∧ H l = some (.lst past) ∧ past.length = os.length ∧ OC K C ∧ OfAt C (Hd (S3 hd p l) H) q o ∧ H q = some (.ins C dxo (offF vs vm vc vk)) ∧ TI H vs o.sz ∧ MV H vm o.mv ∧ CL H vc o.cl ∧ Tx H (Hd (S3 hd p l) H) := by
  obtain ⟨dx, v, past, h1, h2, ⟨q, C, rfl, oc, of⟩, h4⟩ := x.ex
  obtain ⟨dxo, vs, vm, vc, lk, ds, hq, a1, a2, a3, _, _⟩ := of.ex
  have le : Tx (Hd (S3 hd p l) H) H := (Le.ke Hd.le).tx
  obtain ⟨cells, i, b, s, c, hh, _⟩ := x.hA
  refine ⟨dx, q, past, C, dxo, vs, vm, vc, _, h1, h2, plen h4, oc, of, (Hd.at hq).2, TI.stb _ _ _ _ le a1, TT.stb (TT.stb TI.stb) _ _ _ _ le a2, TT.stb TI.stb _ _ _ _ le a3, ⟨fun a xs e => Hd.get (fun z => ?_) e⟩⟩
  rcases z with rfl | rfl | rfl
  · rw [hh] at e; cases e
  · rw [h1] at e; cases e
  · rw [h2] at e; cases e
/-- what an office's data must be, if only by its shape -/
structure Shp (o : Ofc) : Prop where
  s3 : o.sz.length = 3
  n1 : 1 ≤ o.mv.length
  n2 : o.mv.length < 900000
  cl : o.cl.length = o.mv.length
  rw_ : ∀ r ∈ o.mv, r.length < 900000 ∧ ∀ m ∈ r, m ≠ []
  rc : ∀ r ∈ o.cl, r.length < 900000
  sh : Sizes o.sz → MovesSh o.sz o.mv ∧ ClosSh o.sz o.mv.length o.cl
def sp_is_mark (K : PySem.W.Frag) : Sp := fun xs H Q _ => ∃ C q o v a b c r, xs = [.ref q, v] ∧ OC K C ∧ OfAt C H q o ∧ o.sz = [a, b, c] ∧ IsW K H v 0 (c - 1) r ∧ Q (.bl r) H
def sp_is_note (K : PySem.W.Frag) : Sp := fun xs H Q _ => ∃ C q o t v0 v1 a b c r0 r1, xs = [.ref q, .ref t] ∧ OC K C ∧ OfAt C H q o ∧ o.sz = [a, b, c] ∧ H t = some (.tup [v0, v1]) ∧ IsW K H v0 0 (a - 1) r0 ∧ IsW K H v1 0 (b - 1) r1 ∧ Q (.bl (r0 && r1)) H
def sp_is_step (K : PySem.W.Frag) : Sp := fun xs H Q _ => ∃ C q o t v0 v1 v2 a b c r0 r1 r2, xs = [.ref q, .ref t] ∧ OC K C ∧ OfAt C H q o ∧ o.sz = [a, b, c] ∧ H t = some (.tup [v0, v1, v2]) ∧ IsV K H v0 0 (a - 1) r0 ∧ IsV K H v1 0 (b - 1) r1 ∧ IsV K H v2 0 (c - 1) r2 ∧ ∀ H', Ke H H' → Q (.bl (r0 && r1 && r2)) H'
section
variable {P : Program} {w : World} {K : PySem.W.Frag} {mg : Str → Option Value} {base : Heap} (T : Txt K mg)
include T
theorem ok_is_mark : FnOk P w K mg base CX0 3 T.a_is_mark T.d_is_mark P_is_mark (sp_is_mark K) := by
  refine T.F_is_mark.ok sc_is_mark (fun vs H Q E h => ?_) (fun cdv A outer s H vs Q E hr h => ?_)
  · obtain ⟨C, q, o, v, a, b, c, r, rfl, _⟩ := h; rfl
  · obtain ⟨C, q, o, v, a, b, c, r, rfl, oc, of, ez, hw, k⟩ := h
    obtain ⟨dx, vs, vm, vc, lk, ds, hq, ⟨zs, rfl, hz⟩, _⟩ := of.ex
    rw [ez] at hz
    refine ⟨_, (pss_one (ps_ret (pe_call (ok_is_within T) (hr.mono (by decide)) rfl T.g_is_within T.k_is_within T.b_is_within .nil pass0 (pa_cons (pv 1) (pa_cons pe_int (pa_cons (pe_op op_sub (pe_ix ix_tup (pe_fld (pv 0) rfl) pe_int (fun _ _ => rfl)) pe_int) pa_nil)))))), ?_⟩
    exact ⟨_, rfl, _, rfl, q, C, dx, _, _, rfl, hq, oc.c, oc.n1, offF_s _ _ _ _, zs, _, 2, _, rfl, rfl, SqT.of hz, rfl, _, _, rfl, rfl, v, 0, c - 1, r, rfl, hw, k⟩
theorem ok_is_note : FnOk P w K mg base CX0 3 T.a_is_note T.d_is_note P_is_note (sp_is_note K) := by
  refine T.F_is_note.ok sc_is_note (fun vs H Q E h => ?_) (fun cdv A outer s H vs Q E hr h => ?_)
  · obtain ⟨C, q, o, t, v0, v1, a, b, c, r0, r1, rfl, _⟩ := h; rfl
  · obtain ⟨C, q, o, t, v0, v1, a, b, c, r0, r1, rfl, oc, of, ez, ht, h0, h1, k⟩ := h
    obtain ⟨dx, vs, vm, vc, lk, ds, hq, ⟨zs, rfl, hz⟩, _⟩ := of.ex
    rw [ez] at hz
    refine ⟨_, (pss_cons (ps_if (PW.pt (pw_or (pt_not (pt_val (pe_call (ok_is_pair T) (hr.mono (by decide)) rfl T.g_is_pair T.k_is_pair T.b_is_pair .nil pass0 (pa_cons (pv 1) pa_nil)))) (pw_or1 (pt_not (pt_val (pe_call (ok_is_within T) (hr.mono (by decide)) rfl T.g_is_within T.k_is_within T.b_is_within .nil pass0 (pa_cons (pe_ix ix_tup (pv 1) pe_int (fun _ _ => rfl)) (pa_cons pe_int (pa_cons (pe_op op_sub (pe_ix ix_tup (pe_fld (pv 0) rfl) pe_int (fun _ _ => rfl)) pe_int) pa_nil))))))))) (pss_one (ps_ret pe_bl)) pss_nil)
  (pss_one (ps_ret (pe_call (ok_is_within T) (hr.mono (by decide)) rfl T.g_is_within T.k_is_within T.b_is_within .nil pass0 (pa_cons (pe_ix ix_tup (pv 1) pe_int (fun _ _ => rfl)) (pa_cons pe_int (pa_cons (pe_op op_sub (pe_ix ix_tup (pe_fld (pv 0) rfl) pe_int (fun _ _ => rfl)) pe_int) pa_nil))))))), ?_⟩
    refine ⟨_, rfl, t, _, rfl, ht, rfl, true, rfl, iteF ?_⟩
    refine ⟨_, rfl, t, _, 0, _, rfl, rfl, SqT.of ht, rfl, _, rfl, q, C, dx, _, _, rfl, hq, oc.c, oc.n1, offF_s _ _ _ _, zs, _, 0, _, rfl, rfl, SqT.of hz, rfl, _, _, rfl, rfl, v0, 0, a - 1, r0, rfl, h0, r0, rfl, ?_⟩
    cases r0 with
    | false => exact iteT k
    | true =>
      refine iteF ?_
      exact ⟨_, rfl, t, _, 1, _, rfl, rfl, SqT.of ht, rfl, _, rfl, q, C, dx, _, _, rfl, hq, oc.c, oc.n1, offF_s _ _ _ _, zs, _, 1, _, rfl, rfl, SqT.of hz, rfl, _, _, rfl, rfl, v1, 0, b - 1, r1, rfl, h1, k⟩
theorem ok_is_step : FnOk P w K mg base CX0 4 T.a_is_step T.d_is_step P_is_step (sp_is_step K) := by
  refine T.F_is_step.ok sc_is_step (fun vs H Q E h => ?_) (fun cdv A outer s H vs Q E hr h => ?_)
  · obtain ⟨C, q, o, t, v0, v1, v2, a, b, c, r0, r1, r2, rfl, _⟩ := h; rfl
  · obtain ⟨C, q, o, t, v0, v1, v2, a, b, c, r0, r1, r2, rfl, oc, of, ez, ht, h0, h1, h2, k⟩ := h
    refine ⟨_, (pss_one (ps_ret (pe_and (pe_call (ok_is_triple T) (hr.mono (by decide)) rfl T.g_is_triple T.k_is_triple T.b_is_triple .nil pass0 (pa_cons (pv 1) pa_nil)) (pe_and (pe_call (ok_is_note T) (hr.mono (by decide)) rfl T.g_is_note T.k_is_note T.b_is_note .nil pass0 (pa_cons (pv 0) (pa_cons (pe_slice sl_tupA (pv 1) po_none (po_some pe_int)) pa_nil))) (pe_one (pe_call (ok_is_mark T) (hr.mono (by decide)) rfl T.g_is_mark T.k_is_mark T.b_is_mark .nil pass0 (pa_cons (pv 0) (pa_cons (pe_ix ix_tup (pv 1) pe_int (fun _ _ => rfl)) pa_nil)))))))), ?_⟩
    refine ⟨_, rfl, t, _, rfl, ht, rfl, true, rfl, iteT ?_⟩
    refine ⟨_, rfl, _, rfl, 2, rfl, t, _, rfl, SqT.of ht, fun h => absurd h.2 (by show ¬ HT.sIx 3 3 (some 2) = 3; decide), fun _ t2 ht2 => ?_⟩
    have k2 : Ke H (upd H t2 (.tup (cutV [v0, v1, v2] none (some 2)))) := Ke.new ht2
    refine ⟨C, q, o, t2, v0, v1, a, b, c, r0, r1, rfl, oc, of.ke k2, ez, upd_same, h0.w k2, h1.w k2, r0 && r1, rfl, ?_⟩
    cases e : (r0 && r1) with
    | false =>
      refine iteF ?_
      have := k _ k2
      rw [e] at this
      exact this
    | true =>
      refine iteT ?_
      have := k _ k2
      rw [e, Bool.true_and] at this
      exact ⟨_, rfl, _, rfl, t, _, 2, _, rfl, rfl, SqT.of (k2.at ht), rfl, C, q, o, v2, a, b, c, r2, rfl, oc, of.ke k2, ez, h2.w k2, this⟩
end
end Fd
set_option Elab.async false
set_option linter.all false
set_option maxRecDepth 100000
set_option maxHeartbeats 4000000
namespace Fd
open PySem PySem.Spec PyProof.Rows L2
def sp_check_standing (K : PySem.W.Frag) (CS CE : Addr) : Sp := fun xs H Q E => ∃ hd ca p l o os v r, xs = [.ref p, v] ∧ SH K CS hd ca p l H o os ∧ IsW K H v 0 ((o.mv.length : Int) - 1) r ∧ (r = false → E (.ref CE) none H) ∧ (r = true → Q .non H)
def sp_check_mark (K : PySem.W.Frag) (CS CE : Addr) : Sp := fun xs H Q E => ∃ hd ca p l o os v a b c r, xs = [.ref p, v] ∧ SH K CS hd ca p l H o os ∧ o.sz = [a, b, c] ∧ IsW K H v 0 (c - 1) r ∧ (r = false → E (.ref CE) none H) ∧ (r = true → Q .non H)
/-- the office ahead goes to the past -/
def Mvd (CS p l : Addr) (H H' : Hp) : Prop := ∀ dx v past, H p = some (.ins CS dx (shF v (.ref l))) → H l = some (.lst past) → H' l = some (.lst (past ++ [v]))
/-- what becomes of the shop if its office is exchanged -/
def Chg (K : PySem.W.Frag) (CS CB hd ca p l : Addr) (H : Hp) (o : Ofc) (os : List Ofc) (mv : List (List (List Int))) (cl : List (List Int)) (Q : VK) (E : XK) : Prop :=
  (∀ z, BadP o.sz mv cl z → ∀ d H', Ke H H' → H' d = some (.xd [("part", .str z)]) → E (.ref CB) (some d) H') ∧
  (Good o.sz mv cl → ∀ H', Ks (S3 hd p l) H H' → SH K CS hd ca p l H' ⟨o.sz, mv, cl⟩ (os ++ [o]) → Mvd CS p l H H' → Q .non H')
theorem Chg.ke {K : PySem.W.Frag} {CS CB hd ca p l : Addr} {H H' : Hp} {o : Ofc} {os : List Ofc} {mv : List (List (List Int))} {cl : List (List Int)} {Q : VK} {E : XK} (x : Chg K CS CB hd ca p l H o os mv cl Q E) (k : Ke H H') : Chg K CS CB hd ca p l H' o os mv cl Q E :=
  ⟨fun z hz d H2 k2 => x.1 z hz d H2 (k.trans k2), fun g H2 k2 s2 m2 => x.2 g H2 (k.ks.trans k2) s2 fun dx v past h1 h2 => m2 dx v past (k.at h1) (k.at h2)⟩
def sp_change (K : PySem.W.Frag) (CS CB : Addr) : Sp := fun xs H Q E => ∃ hd ca p l o os vm vc mv cl, xs = [.ref p, vm, vc] ∧ SH K CS hd ca p l H o os ∧ os.length < 1000 ∧ MV H vm mv ∧ CL H vc cl ∧ o.sz.length = 3 ∧ mv.length < 1000000 ∧ (Sizes o.sz → MovesSh o.sz mv ∧ ClosSh o.sz mv.length cl) ∧ Chg K CS CB hd ca p l H o os mv cl Q E
section
variable {P : Program} {w : World} {K : PySem.W.Frag} {mg : Str → Option Value} {base : Heap} (T : Txt K mg) (Er : Err P K mg) (htop : (P.main.scope.names.lookup ("super" : Str)).isSome = false)
include T Er htop
theorem ok_Shop_check_standing : FnOk P w K mg base (L2.CX P w) 3 T.a_Shop_check_standing T.d_Shop_check_standing P_Shop_check_standing (sp_check_standing K T.a_Shop Er.a_NoStanding) := by
  refine T.F_Shop_check_standing.okX sc_Shop_check_standing (fun vs H Q E h => ?_) (fun cdv A outer s H vs Q E hr h => ?_)
  · obtain ⟨hd, ca, p, l, o, os, v, r, rfl, _⟩ := h; rfl
  · obtain ⟨hd, ca, p, l, o, os, v, r, rfl, sh, hw, kE, k⟩ := h
    have tk : Takes (cxOf (L2.CX P w) P w K mg base N_Shop_check_standing "Shop.check_standing" (defScope s_Shop_check_standing) T.a_Shop_check_standing cdv A outer s H E) (fun cls d _ H' => E cls d H') := takes_of rfl rfl rfl rfl
    obtain ⟨dx, q, past, C, dxo, vs, vm, vc, vk, hp, hl, lp, oc, of, hq, hz, ⟨mm, ms, rfl, hmm, pm⟩, hc, tx⟩ := sh.at
    refine ⟨_, (pss_one (ps_if (pt_not (pt_val (pe_call (ok_is_within T) (hr.mono (by decide)) rfl T.g_is_within T.k_is_within T.b_is_within .nil pass0 (pa_cons (pv 1) (pa_cons pe_int (pa_cons (pe_op op_sub (pe_callB call_len (by rfl) T.n_len (by decide +kernel) (pa_cons (pe_fld (pe_fld (pv 0) rfl) rfl) pa_nil)) pe_int) pa_nil)))))) (pss_one (ps_raise rfl tk (pmk_own0 F.excBase_ValueError Er.x_NoStanding Er.g_NoStanding Er.k_NoStanding (raises_own Er.s_NoStanding Er.t_NoStanding) rfl))) pss_nil)), ?_⟩
    refine ⟨_, rfl, _, rfl, p, T.a_Shop, dx, _, _, rfl, hp, T.c_Shop, T.f_Shop_kept_now, shF_n, q, C, dxo, _, _, rfl, hq, oc.c, oc.n2, offF_m _ _ _ _, .ref mm, _, rfl, .inr ⟨_, SqT.of hmm, rfl⟩, _, _, rfl, rfl, v, 0, _, r, rfl, (by rw [plen pm]; exact hw), r, rfl, ?_⟩
    cases r with
    | true => exact iteF (stepT (k rfl))
    | false => exact iteT (kE rfl)
theorem ok_Shop_check_mark : FnOk P w K mg base (L2.CX P w) 4 T.a_Shop_check_mark T.d_Shop_check_mark P_Shop_check_mark (sp_check_mark K T.a_Shop Er.a_NoMark) := by
  refine T.F_Shop_check_mark.okX sc_Shop_check_mark (fun vs H Q E h => ?_) (fun cdv A outer s H vs Q E hr h => ?_)
  · obtain ⟨hd, ca, p, l, o, os, v, a, b, c, r, rfl, _⟩ := h; rfl
  · obtain ⟨hd, ca, p, l, o, os, v, a, b, c, r, rfl, sh, ez, hw, kE, k⟩ := h
    have tk : Takes (cxOf (L2.CX P w) P w K mg base N_Shop_check_mark "Shop.check_mark" (defScope s_Shop_check_mark) T.a_Shop_check_mark cdv A outer s H E) (fun cls d _ H' => E cls d H') := takes_of rfl rfl rfl rfl
    obtain ⟨dx, q, past, C, dxo, vs, vm, vc, vk, hp, hl, lp, oc, of, hq, hz, hm, hc, tx⟩ := sh.at
    refine ⟨_, (pss_one (ps_if (pt_not (pt_val (pe_call (ok_is_mark T) (hr.mono (by decide)) rfl T.g_is_mark T.k_is_mark T.b_is_mark .nil pass0 (pa_cons (pe_fld (pv 0) rfl) (pa_cons (pv 1) pa_nil))))) (pss_one (ps_raise rfl tk (pmk_own0 F.excBase_ValueError Er.x_NoMark Er.g_NoMark Er.k_NoMark (raises_own Er.s_NoMark Er.t_NoMark) rfl))) pss_nil)), ?_⟩
    refine ⟨_, rfl, p, T.a_Shop, dx, _, _, rfl, hp, T.c_Shop, T.f_Shop_kept_now, shF_n, _, rfl, C, q, o, v, a, b, c, r, rfl, oc, of.ke (Le.ke Hd.le), ez, hw, r, rfl, ?_⟩
    cases r with
    | true => exact iteF (stepT (k rfl))
    | false => exact iteT (kE rfl)
theorem ok_Shop_change : FnOk P w K mg base (L2.CX P w) 7 T.a_Shop_change T.d_Shop_change P_Shop_change (sp_change K T.a_Shop Er.a_BadOffice) := by
  refine T.F_Shop_change.okX sc_Shop_change (fun vs H Q E h => ?_) (fun cdv A outer s H vs Q E hr h => ?_)
  · obtain ⟨hd, ca, p, l, o, os, vm, vc, mv, cl, rfl, _⟩ := h; rfl
  · obtain ⟨hd, ca, p, l, o, os, vm, vc, mv, cl, rfl, sh, los, hm, hc, h3, lmv, hsh, ch⟩ := h
    have tk : Takes (cxOf (L2.CX P w) P w K mg base N_Shop_change "Shop.change" (defScope s_Shop_change) T.a_Shop_change cdv A outer s H E) (fun cls d _ H' => E cls d H') := takes_of rfl rfl rfl rfl
    obtain ⟨dx, q, past, C, dxo, vs, vmo, vco, vk, hp, hl, lp, oc, of, hq, hz, _, _, tx⟩ := sh.at
    refine ⟨_, (pss_cons (ps_set (i := 3) sc_Shop_change.nd rfl (Or.inl rfl) (pe_make T.m_Office (ok_Office_init T Er htop) (hr.mono (by decide)) rfl T.g_Office T.b_Office_init .nil (passes_call tk fun _ _ _ _ h => h) (pa_cons (pe_fld (pe_fld (pv 0) rfl) rfl) (pa_cons (pv 1) (pa_cons (pv 2) pa_nil)))))
  (pss_cons (ps_expr (pe_bm PySem.F.plainAttrs_list PySem.F.slot_list_append PySem.F.type_list_append mt_append (pe_fld (pv 0) rfl) (pa_cons (pe_fld (pv 0) rfl) pa_nil)))
  (pss_one (ps_fld (pv 0) (pv 3) rfl)))), ?_⟩
    refine ⟨_, rfl, p, T.a_Shop, dx, _, _, rfl, hp, T.c_Shop, T.f_Shop_kept_now, shF_n, q, C, dxo, _, _, rfl, hq, oc.c, oc.n1, offF_s _ _ _ _, _, rfl, _, rfl, ?_⟩
    refine nilA fun x dx' hx hdx ndx => ?_
    have kA : Ke H (upd (upd H dx' (.own x)) x (.ins T.a_Office dx' [])) := (Ke.new hdx).trans (Ke.new (by rw [upd_ne ndx.symm]; exact hx))
    have x1 : x ≠ hd := fun z => sh.hA.there.1 (by rw [← z]; exact hx)
    have x0 : x ≠ ca := fun z => sh.hA.there.2 (by rw [← z]; exact hx)
    have x2 : x ≠ p := fun z => by rw [z, hp] at hx; cases hx
    have x3 : x ≠ l := fun z => by rw [z, hl] at hx; cases hx
    have shA := sh.ke kA
    obtain ⟨_, _, _, _, _, _, _, _, _, hpA, hlA, _, _, _, _, _, _, _, txA'⟩ := shA.at
    have txA := kA.tx.trans txA'
    refine ⟨S3 hd p l, x, dx', vs, vm, vc, o.sz, mv, cl, rfl, upd_same, fun z => ?_, fun y z => ?_, TI.stb _ _ _ _ txA hz, TT.stb (TT.stb TI.stb) _ _ _ _ txA hm, TT.stb TI.stb _ _ _ _ txA hc, h3, lmv, hsh, fun z hz' d H' k' => ch.1 z hz' d H' (kA.trans k'), fun g H4 k4 o4 => ⟨rfl, ?_⟩⟩
    · rcases z with z | z | z
      · exact x1 z
      · exact x2 z
      · exact x3 z
    · rcases z with z | z | z
      · rw [z]; exact shA.hA.there.1
      · rw [z, hpA]; exact fun z => nomatch z
      · rw [z, hlA]; exact fun z => nomatch z
    · have k04 : Ke H H4 := Ks.comp kA.ks k4 (fun _ z => z) fun y z => .inr (by rw [z]; exact hx)
      have sh4 := sh.ke k04
      have hp4 := k04.at hp
      have hl4 := k04.at hl
      have hA4 := sh4.hA
      refine stepN ?_
      dsimp only
      refine ⟨_, rfl, p, T.a_Shop, dx, _, _, rfl, hp4, T.c_Shop, T.f_Shop_kept_past, shF_p, .inl ⟨rfl, _, SqL.of hl4⟩, _, rfl, p, T.a_Shop, dx, _, _, rfl, hp4, T.c_Shop, T.f_Shop_kept_now, shF_n, l, past, .ref q, rfl, rfl, hl4, by rw [sizeLine_eq]; omega, ?_⟩
      have hp5 : (upd H4 l (.lst (past ++ [.ref q]))) p = some (.ins T.a_Shop dx (shF (.ref q) (.ref l))) := by rw [upd_ne sh.n5]; exact hp4
      refine ⟨_, rfl, _, rfl, p, T.a_Shop, dx, _, rfl, hp5, T.c_Shop, T.f_Shop_kept_now, (by show 2 < 1000; decide), ?_⟩
      rw [shF_put]
      have kS : Ks (S3 hd p l) H (upd (upd H4 l (.lst (past ++ [.ref q]))) p (.ins T.a_Shop dx (shF (.ref x) (.ref l)))) := (k04.ks.mut (.inr (.inr rfl)) (fun ys z => by rw [hl4] at z; cases z)).mut (.inr (.inl rfl)) (fun ys z => by rw [hp5] at z; cases z)
      have kS4 : Ks (S3 hd p l) H4 (upd (upd H4 l (.lst (past ++ [.ref q]))) p (.ins T.a_Shop dx (shF (.ref x) (.ref l)))) := (Ks.refl.mut (.inr (.inr rfl)) (fun ys z => by rw [hl4] at z; cases z)).mut (.inr (.inl rfl)) (fun ys z => by rw [hp5] at z; cases z)
      refine ch.2 g _ kS ⟨(hA4.mut sh.n2 sh.n4).mut sh.n1 sh.n3, sh.n1, sh.n2, sh.n3, sh.n4, sh.n5, dx, .ref x, past ++ [.ref q], upd_same, by rw [upd_ne sh.n5.symm]; exact upd_same, ⟨x, T.a_Office, rfl, T.oc, o4.ke (Hd.ke kS4)⟩, ?_⟩ (fun dx' v past' h1 h2 => ?_)
      rotate_left
      · rw [hp] at h1
        rw [hl] at h2
        have e2 : past = past' := by injection h2 with h2; injection h2
        have e1 : V.ref q = v := by
          injection h1 with h1
          injection h1 with _ _ h1
          have z1 := congrArg (List.lookup ("kept_now" : Str)) h1
          rw [shF_n, shF_n] at z1
          exact Option.some.inj z1
        subst e1 e2
        rw [upd_ne sh.n5.symm]; exact upd_same
      obtain ⟨_, q0, past0, e1, e2, e3, e4⟩ := sh.ex
      rw [hp] at e1
      rw [hl] at e2
      have e2' : past = past0 := by injection e2 with e2; injection e2
      have e1' : V.ref q = q0 := by
        injection e1 with e1
        injection e1 with _ _ e1
        have z1 := congrArg (List.lookup ("kept_now" : Str)) e1
        rw [shF_n, shF_n] at z1
        exact Option.some.inj z1
      subst e2' e1'
      exact papp (pimp (fun v o r => r.ks kS) e4) (.cons (e3.ks kS) .nil)
end
end Fd
set_option Elab.async false
set_option linter.all false
set_option maxRecDepth 100000
set_option maxHeartbeats 4000000
namespace Fd
open PySem PySem.Spec PyProof.Rows L2
def sp_put (K : PySem.W.Frag) (CS CN CT CB : Addr) : Sp := fun xs H Q E => ∃ hd ca p l o os v0 v1 v2 v3 v4 a b c r0 r1 r2 r3 r4, xs = [.ref p, v0, v1, v2, v3, v4] ∧ SH K CS hd ca p l H o os ∧ os.length < 1000 ∧ Shp o ∧ o.sz = [a, b, c] ∧
  IsV K H v0 0 ((o.mv.length : Int) - 1) r0 ∧ IsV K H v1 0 (a - 1) r1 ∧ IsV K H v2 0 (b - 1) r2 ∧ IsV K H v3 0 (c - 1) r3 ∧ IsV K H v4 0 ((o.mv.length : Int) - 1) r4 ∧
  (r0 = false → ∀ H', Ke H H' → E (.ref CN) none H') ∧ (r0 = true → (r1 && r2 && r3) = false → ∀ H', Ke H H' → E (.ref CT) none H') ∧ (r0 = true → (r1 && r2 && r3) = true → r4 = false → ∀ H', Ke H H' → E (.ref CN) none H') ∧
  (∀ (n : Nat) x y z g row, v0 = .int n → v1 = .int x → v2 = .int y → v3 = .int z → v4 = .int g → o.mv[n]? = some row → (0 ≤ x ∧ x ≤ a - 1) → (0 ≤ y ∧ y ≤ b - 1) → (0 ≤ z ∧ z ≤ c - 1) → (0 ≤ g ∧ g ≤ (o.mv.length : Int) - 1) → Chg K CS CB hd ca p l H o os (o.mv.set n (sortT (row ++ [[x, y, z, g]]))) o.cl Q E)
def sp_strike (K : PySem.W.Frag) (CS CN CM : Addr) : Sp := fun xs H Q E => ∃ hd ca p l o os v0 v1 r0, xs = [.ref p, v0, v1] ∧ SH K CS hd ca p l H o os ∧ IsV K H v0 0 ((o.mv.length : Int) - 1) r0 ∧
  (r0 = false → E (.ref CN) none H) ∧ (r0 = true → ∃ n : Nat, ∃ row, v0 = .int n ∧ o.mv[n]? = some row ∧ IsV K H v1 0 ((row.length : Int) - 1) false ∧ E (.ref CM) none H)
def sp_shuts (K : PySem.W.Frag) (CS CN CM CB : Addr) : Sp := fun xs H Q E => ∃ hd ca p l o os v0 v1 a b c r0 r1, xs = [.ref p, v0, v1] ∧ SH K CS hd ca p l H o os ∧ os.length < 1000 ∧ Shp o ∧ o.sz = [a, b, c] ∧ IsV K H v0 0 ((o.mv.length : Int) - 1) r0 ∧ IsV K H v1 0 (c - 1) r1 ∧
  (r0 = false → E (.ref CN) none H) ∧ (r0 = true → r1 = false → E (.ref CM) none H) ∧ (∀ (n : Nat) k row, v0 = .int n → v1 = .int k → o.cl[n]? = some row → (0 ≤ k ∧ k ≤ c - 1) → Chg K CS CB hd ca p l H o os o.mv (o.cl.set n (sortI (row ++ [k]))) Q E)
def sp_shuts_not (K : PySem.W.Frag) (CS CN CM : Addr) : Sp := fun xs H Q E => ∃ hd ca p l o os v0 v1 a b c r0 r1, xs = [.ref p, v0, v1] ∧ SH K CS hd ca p l H o os ∧ Shp o ∧ o.sz = [a, b, c] ∧ IsV K H v0 0 ((o.mv.length : Int) - 1) r0 ∧ IsV K H v1 0 (c - 1) r1 ∧
  (r0 = false → E (.ref CN) none H) ∧ (r0 = true → E (.ref CM) none H) ∧ (∀ (n : Nat) k row, v0 = .int n → v1 = .int k → o.cl[n]? = some row → k ∉ row)
def sp_add (K : PySem.W.Frag) (CS CB : Addr) : Sp := fun xs H Q E => ∃ hd ca p l o os, xs = [.ref p] ∧ SH K CS hd ca p l H o os ∧ os.length < 1000 ∧ Shp o ∧ Chg K CS CB hd ca p l H o os (o.mv ++ [[]]) (o.cl ++ [[]]) Q E
def sp_office (K : PySem.W.Frag) (CS : Addr) : Sp := fun xs H Q _ => ∃ hd ca p l o os, xs = [.ref p] ∧ SH K CS hd ca p l H o os ∧ ∀ dx q, H p = some (.ins CS dx (shF (.ref q) (.ref l))) → Std K (S3 hd p l) H (.ref q) o → Q (.ref q) H
def sp_depth (K : PySem.W.Frag) (CS : Addr) : Sp := fun xs H Q _ => ∃ hd ca p l o os, xs = [.ref p] ∧ SH K CS hd ca p l H o os ∧ Q (.int os.length) H
def sp_shop (CS : Addr) : Sp := fun xs H Q _ => ∃ p dx v, xs = [.ref p, v] ∧ H p = some (.ins CS dx []) ∧ ∀ l, H l = none → Q .non (upd (upd (upd H p (.ins CS dx (putF "kept_now" v []))) l (.lst [])) p (.ins CS dx (shF v (.ref l))))
section
variable {P : Program} {w : World} {K : PySem.W.Frag} {mg : Str → Option Value} {base : Heap} (T : Txt K mg) (Er : Err P K mg) (htop : (P.main.scope.names.lookup ("super" : Str)).isSome = false)
section
include T
theorem ok_Shop_init : FnOk P w K mg base CX0 1 T.a_Shop_init T.d_Shop_init P_Shop_init (sp_shop T.a_Shop) := by
  refine T.F_Shop_init.ok sc_Shop_init (fun vs H Q E h => ?_) (fun cdv A outer s H vs Q E hr h => ?_)
  · obtain ⟨p, dx, v, rfl, _⟩ := h; rfl
  · obtain ⟨p, dx, v, rfl, hp, k⟩ := h
    refine ⟨_, (pss_cons (ps_fld (pv 0) (pv 1) rfl)
  (pss_one (ps_fld (pv 0) (pe_lst pa_nil) rfl))), ?_⟩
    refine ⟨_, rfl, _, rfl, p, T.a_Shop, dx, [], rfl, hp, T.c_Shop, T.f_Shop_kept_now, by decide, ?_⟩
    refine ⟨by decide, fun l hl => ?_⟩
    have npl : p ≠ l := fun z => by rw [← z, upd_same] at hl; cases hl
    have hl0 : H l = none := by rw [upd_ne npl.symm] at hl; exact hl
    exact ⟨_, rfl, p, T.a_Shop, dx, _, rfl, by rw [upd_ne npl, upd_same], T.c_Shop, T.f_Shop_kept_past, (by show 1 < 1000; decide), k l hl0⟩
theorem ok_Shop_office : FnOk P w K mg base CX0 1 T.a_Shop_office T.d_Shop_office P_Shop_office (sp_office K T.a_Shop) := by
  refine T.F_Shop_office.ok sc_Shop_office (fun vs H Q E h => ?_) (fun cdv A outer s H vs Q E hr h => ?_)
  · obtain ⟨hd, ca, p, l, o, os, rfl, _⟩ := h; rfl
  · obtain ⟨hd, ca, p, l, o, os, rfl, sh, k⟩ := h
    obtain ⟨dx, q, past, C, dxo, vs, vm, vc, vk, hp, hl, lp, oc, of, hq, hz, hm, hc, tx⟩ := sh.at
    refine ⟨_, (pss_one (ps_ret (pe_fld (pv 0) rfl))), ?_⟩
    exact ⟨_, rfl, p, T.a_Shop, dx, _, _, rfl, hp, T.c_Shop, T.f_Shop_kept_now, shF_n, k dx q hp ⟨q, C, rfl, oc, of⟩⟩
theorem ok_Shop_depth : FnOk P w K mg base CX0 1 T.a_Shop_depth T.d_Shop_depth P_Shop_depth (sp_depth K T.a_Shop) := by
  refine T.F_Shop_depth.ok sc_Shop_depth (fun vs H Q E h => ?_) (fun cdv A outer s H vs Q E hr h => ?_)
  · obtain ⟨hd, ca, p, l, o, os, rfl, _⟩ := h; rfl
  · obtain ⟨hd, ca, p, l, o, os, rfl, sh, k⟩ := h
    obtain ⟨dx, q, past, C, dxo, vs, vm, vc, vk, hp, hl, lp, oc, of, hq, hz, hm, hc, tx⟩ := sh.at
    refine ⟨_, (pss_one (ps_ret (pe_callB call_len (by rfl) T.n_len (by decide +kernel) (pa_cons (pe_fld (pv 0) rfl) pa_nil)))), ?_⟩
    exact ⟨_, rfl, p, T.a_Shop, dx, _, _, rfl, hp, T.c_Shop, T.f_Shop_kept_past, shF_p, .ref l, _, rfl, .inl ⟨_, SqL.of hl, rfl⟩, by rw [lp]; exact k⟩
end
include T Er htop
theorem ok_Shop_add : FnOk P w K mg base (L2.CX P w) 8 T.a_Shop_add T.d_Shop_add P_Shop_add (sp_add K T.a_Shop Er.a_BadOffice) := by
  refine T.F_Shop_add.okX sc_Shop_add (fun vs H Q E h => ?_) (fun cdv A outer s H vs Q E hr h => ?_)
  · obtain ⟨hd, ca, p, l, o, os, rfl, _⟩ := h; rfl
  · obtain ⟨hd, ca, p, l, o, os, rfl, sh, los, shp, ch⟩ := h
    have tk : Takes (cxOf (L2.CX P w) P w K mg base N_Shop_add "Shop.add" (defScope s_Shop_add) T.a_Shop_add cdv A outer s H E) (fun cls d _ H' => E cls d H') := takes_of rfl rfl rfl rfl
    obtain ⟨dx, q, past, C, dxo, vs, vm, vc, vk, hp, hl, lp, oc, of, hq, hz, hm, hc, tx⟩ := sh.at
    refine ⟨_, (pss_one (ps_expr (pe_meth (pv 0) T.c_Shop T.t_Shop_change (ok_Shop_change T Er htop) (hr.mono (by decide)) T.b_Shop_change .nil (passes_call tk fun _ _ _ _ h => h) (pa_cons (pe_op op_catA (pe_fld (pe_fld (pv 0) rfl) rfl) (pe_tup (pa_cons (pe_tup pa_nil) pa_nil))) (pa_cons (pe_op op_catA (pe_fld (pe_fld (pv 0) rfl) rfl) (pe_tup (pa_cons (pe_tup pa_nil) pa_nil))) pa_nil))))), ?_⟩
    refine ⟨_, rfl, p, dx, _, rfl, hp, rfl, ?_⟩
    refine ⟨_, rfl, p, T.a_Shop, dx, _, _, rfl, hp, T.c_Shop, T.f_Shop_kept_now, shF_n, q, C, dxo, _, _, rfl, hq, oc.c, oc.n2, offF_m _ _ _ _, by decide, fun e0 he0 => ⟨(by show 1 ≤ sizeLine; decide), fun t1 ht1 => ?_⟩⟩
    have k1 : Ke H (upd (upd H e0 (.tup [])) t1 (.tup [.ref e0])) := (Ke.new he0).trans (Ke.new ht1)
    have he1 := (Ke.new (o := HO.tup [V.ref e0]) ht1).at (upd_same (H := H) (a := e0) (o := HO.tup []))
    refine cat_row (TT.stb TI.stb) (TT.stb (TT.stb TI.stb) _ _ _ _ k1.tx hm) (⟨t1, [.ref e0], rfl, upd_same, .cons ⟨e0, [], rfl, he1, .nil⟩ .nil⟩ : TT (TT TI) _ _ [[]]) (by have := shp.n2; simp; omega) fun v1 H2 k2 h1 => ?_
    have k02 := k1.trans k2
    refine ⟨_, rfl, p, T.a_Shop, dx, _, _, rfl, k02.at hp, T.c_Shop, T.f_Shop_kept_now, shF_n, q, C, dxo, _, _, rfl, k02.at hq, oc.c, oc.n3, offF_c _ _ _ _, by decide, fun e2 he2 => ⟨(by show 1 ≤ sizeLine; decide), fun t3 ht3 => ?_⟩⟩
    have k3 : Ke H2 (upd (upd H2 e2 (.tup [])) t3 (.tup [.ref e2])) := (Ke.new he2).trans (Ke.new ht3)
    have he3 := (Ke.new (o := HO.tup [V.ref e2]) ht3).at (upd_same (H := H2) (a := e2) (o := HO.tup []))
    refine cat_row TI.stb (TT.stb TI.stb _ _ _ _ (k02.trans k3).tx hc) (⟨t3, [.ref e2], rfl, upd_same, .cons ⟨e2, rfl, he3⟩ .nil⟩ : TT TI _ _ [[]]) (by have := shp.n2; have := shp.cl; simp; omega) fun v2 H4 k4 h2 => ?_
    have k24 := k3.trans k4
    refine nilA ⟨hd, ca, p, l, o, os, v1, v2, o.mv ++ [[]], o.cl ++ [[]], rfl, sh.ke (k02.trans k24), los, TT.stb (TT.stb TI.stb) _ _ _ _ k24.tx h1, h2, shp.s3, by have := shp.n2; simp; omega, fun z => ?_, ch.ke (k02.trans k24)⟩
    obtain ⟨⟨m1, m2⟩, ⟨c1, c2⟩⟩ := shp.sh z
    have en : (((o.mv ++ [[]]).length : Nat) : Int) = (o.mv.length : Int) + 1 := by rw [List.length_append, List.length_singleton]; omega
    refine ⟨⟨by simp, fun r hr => ?_⟩, ⟨by rw [en, List.length_append, List.length_singleton]; omega, fun r hr => ?_⟩⟩
    · rw [en]
      rcases List.mem_append.mp hr with y | y
      · exact ⟨fun m hm => ((m2 r y).1 m hm).mono (by omega), (m2 r y).2⟩
      · rw [List.mem_singleton.mp y]; exact ⟨(fun m hm => by cases hm), by decide⟩
    · rcases List.mem_append.mp hr with y | y
      · exact c2 r y
      · rw [List.mem_singleton.mp y]; exact ⟨(fun m hm => by cases hm), by decide⟩
end
end Fd
set_option Elab.async false
set_option linter.all false
set_option maxRecDepth 100000
set_option maxHeartbeats 4000000
namespace Fd
open PySem PySem.Spec PyProof.Rows L2
section
variable {P : Program} {w : World} {K : PySem.W.Frag} {mg : Str → Option Value} {base : Heap} (T : Txt K mg) (Er : Err P K mg) (htop : (P.main.scope.names.lookup ("super" : Str)).isSome = false)
include T Er htop
theorem ok_Shop_shuts : FnOk P w K mg base (L2.CX P w) 8 T.a_Shop_shuts T.d_Shop_shuts P_Shop_shuts (sp_shuts K T.a_Shop Er.a_NoStanding Er.a_NoMark Er.a_BadOffice) := by
  refine T.F_Shop_shuts.okX sc_Shop_shuts (fun vs H Q E h => ?_) (fun cdv A outer s H vs Q E hr h => ?_)
  · obtain ⟨hd, ca, p, l, o, os, v0, v1, a, b, c, r0, r1, rfl, _⟩ := h; rfl
  · obtain ⟨hd, ca, p, l, o, os, v0, v1, a, b, c, r0, r1, rfl, sh, los, shp, ez, h0, h1, kE, kM, k⟩ := h
    have tk : Takes (cxOf (L2.CX P w) P w K mg base N_Shop_shuts "Shop.shuts" (defScope s_Shop_shuts) T.a_Shop_shuts cdv A outer s H E) (fun cls d _ H' => E cls d H') := takes_of rfl rfl rfl rfl
    obtain ⟨dx, q, past, C, dxo, vs, vm, vc, vk, hp, hl, lp, oc, of, hq, hz, hm, ⟨cm, cs, rfl, hcm, pc⟩, tx⟩ := sh.at
    refine ⟨_, (pss_cons (ps_expr (pe_meth (pv 0) T.c_Shop T.t_Shop_check_standing (ok_Shop_check_standing T Er htop) (hr.mono (by decide)) T.b_Shop_check_standing .nil (passes_call tk fun _ _ _ _ h => h) (pa_cons (pv 1) pa_nil)))
  (pss_cons (ps_expr (pe_meth (pv 0) T.c_Shop T.t_Shop_check_mark (ok_Shop_check_mark T Er htop) (hr.mono (by decide)) T.b_Shop_check_mark .nil (passes_call tk fun _ _ _ _ h => h) (pa_cons (pv 2) pa_nil)))
  (pss_cons (ps_set (i := 3) sc_Shop_shuts.nd rfl (Or.inl rfl) (pe_fld (pe_fld (pv 0) rfl) rfl))
  (pss_one (ps_expr (pe_meth (pv 0) T.c_Shop T.t_Shop_change (ok_Shop_change T Er htop) (hr.mono (by decide)) T.b_Shop_change .nil (passes_call tk fun _ _ _ _ h => h) (pa_cons (pe_fld (pe_fld (pv 0) rfl) rfl) (pa_cons (pe_call (ok_exchanged T) (hr.mono (by decide)) rfl T.g_exchanged T.k_exchanged T.b_exchanged .nil pass0 (pa_cons (pv 3) (pa_cons (pv 1) (pa_cons (pe_call (ok_with_item T) (hr.mono (by decide)) rfl T.g_with_item T.k_with_item T.b_with_item .nil pass0 (pa_cons (pe_ix ix_tup (pv 3) (pv 1) (fun _ _ => rfl)) (pa_cons (pv 2) pa_nil))) pa_nil)))) pa_nil)))))))), ?_⟩
    refine ⟨_, rfl, p, dx, _, rfl, hp, rfl, _, rfl, hd, ca, p, l, o, os, v0, r0, rfl, sh, h0.w .refl, kE, fun e0 => ?_⟩
    refine ⟨_, rfl, p, dx, _, rfl, hp, rfl, _, rfl, hd, ca, p, l, o, os, v1, a, b, c, r1, rfl, sh, ez, h1.w .refl, kM e0, fun e1 => ?_⟩
    rw [e0] at h0
    rw [e1] at h1
    obtain ⟨n0, rfl, n1, n2⟩ := h0.int
    obtain ⟨kk, rfl, k1, k2⟩ := h1.int
    obtain ⟨n, rfl⟩ : ∃ n : Nat, n0 = (n : Int) := ⟨n0.toNat, by omega⟩
    have hcl := shp.cl
    obtain ⟨cro, hcro⟩ : ∃ r, o.cl[n]? = some r := ⟨_, List.getElem?_eq_getElem (by omega)⟩
    obtain ⟨cv, hcv, cra, rfl, hcra⟩ := pget pc hcro
    have lro := shp.rc cro (List.mem_of_getElem? hcro)
    refine ⟨_, rfl, p, T.a_Shop, dx, _, _, rfl, hp, T.c_Shop, T.f_Shop_kept_now, shF_n, q, C, dxo, _, _, rfl, hq, oc.c, oc.n3, offF_c _ _ _ _, stepN ?_⟩
    refine ⟨_, rfl, p, dx, _, rfl, hp, rfl, _, rfl, p, T.a_Shop, dx, _, _, rfl, hp, T.c_Shop, T.f_Shop_kept_now, shF_n, q, C, dxo, _, _, rfl, hq, oc.c, oc.n2, offF_m _ _ _ _, ?_⟩
    refine ⟨_, rfl, _, rfl, _, rfl, _, rfl, cm, cs, n, _, rfl, rfl, SqT.of hcm, atI_nat hcv rfl, _, rfl, .ref cra, .int kk, rfl, .inr ⟨cro, kk, ⟨cra, rfl, hcra⟩, rfl, by omega, fun v' H1 k1' hv' => ?_⟩⟩
    refine ⟨List Int, TI, .ref cm, v', n, o.cl, sortI (cro ++ [kk]), rfl, TI.stb, ⟨cm, cs, rfl, k1'.at hcm, pimp (fun v x r => TI.stb _ _ v x k1'.tx r) pc⟩, hv', by omega, by have := shp.n2; omega, fun v2 H2 k2' hv2 => ?_⟩
    have k02 := k1'.trans k2'
    refine nilA ⟨hd, ca, p, l, o, os, vm, v2, o.mv, o.cl.set n (sortI (cro ++ [kk])), rfl, sh.ke k02, los, TT.stb (TT.stb TI.stb) _ _ _ _ k02.tx hm, hv2, shp.s3, by have := shp.n2; omega, fun z => ?_, (k n kk cro rfl rfl hcro ⟨k1, k2⟩).ke k02⟩
    obtain ⟨m, ⟨c1, c2⟩⟩ := shp.sh z
    refine ⟨m, ⟨by rw [List.length_set]; exact c1, fun r hr => ?_⟩⟩
    rcases List.mem_or_eq_of_mem_set hr with y | y
    · exact c2 r y
    · rw [y]
      refine ⟨fun x hx => ?_, by rw [len_sortI, List.length_append, List.length_singleton]; omega⟩
      rcases List.mem_append.mp (mem_sortI.mp hx) with z | z
      · exact (c2 cro (List.mem_of_getElem? hcro)).1 x z
      · rw [List.mem_singleton.mp z]; exact ⟨a, b, c, ez, k1, k2⟩
theorem ok_Shop_put : FnOk P w K mg base (L2.CX P w) 8 T.a_Shop_put T.d_Shop_put P_Shop_put (sp_put K T.a_Shop Er.a_NoStanding Er.a_NoStep Er.a_BadOffice) := by
  refine T.F_Shop_put.okX sc_Shop_put (fun vs H Q E h => ?_) (fun cdv A outer s H vs Q E hr h => ?_)
  · obtain ⟨hd, ca, p, l, o, os, v0, v1, v2, v3, v4, a, b, c, r0, r1, r2, r3, r4, rfl, _⟩ := h; rfl
  · obtain ⟨hd, ca, p, l, o, os, v0, v1, v2, v3, v4, a, b, c, r0, r1, r2, r3, r4, rfl, sh, los, shp, ez, h0, h1, h2, h3, h4, kN, kT, kN2, k⟩ := h
    have tk : Takes (cxOf (L2.CX P w) P w K mg base N_Shop_put "Shop.put" (defScope s_Shop_put) T.a_Shop_put cdv A outer s H E) (fun cls d _ H' => E cls d H') := takes_of rfl rfl rfl rfl
    obtain ⟨dx, q, past, C, dxo, vs, vm, vc, vk, hp, hl, lp, oc, of, hq, hz, ⟨mm, ms, rfl, hmm, pm⟩, hc, tx⟩ := sh.at
    refine ⟨_, (pss_cons (ps_expr (pe_meth (pv 0) T.c_Shop T.t_Shop_check_standing (ok_Shop_check_standing T Er htop) (hr.mono (by decide)) T.b_Shop_check_standing .nil (passes_call tk fun _ _ _ _ h => h) (pa_cons (pv 1) pa_nil)))
  (pss_cons (ps_if (pt_not (pt_val (pe_call (ok_is_step T) (hr.mono (by decide)) rfl T.g_is_step T.k_is_step T.b_is_step .nil pass0 (pa_cons (pe_fld (pv 0) rfl) (pa_cons (pe_tup (pa_cons (pv 2) (pa_cons (pv 3) (pa_cons (pv 4) pa_nil)))) pa_nil))))) (pss_one (ps_raise rfl tk (pmk_own0 F.excBase_ValueError Er.x_NoStep Er.g_NoStep Er.k_NoStep (raises_own Er.s_NoStep Er.t_NoStep) rfl))) pss_nil)
  (pss_cons (ps_expr (pe_meth (pv 0) T.c_Shop T.t_Shop_check_standing (ok_Shop_check_standing T Er htop) (hr.mono (by decide)) T.b_Shop_check_standing .nil (passes_call tk fun _ _ _ _ h => h) (pa_cons (pv 5) pa_nil)))
  (pss_cons (ps_set (i := 6) sc_Shop_put.nd rfl (Or.inl rfl) (pe_fld (pe_fld (pv 0) rfl) rfl))
  (pss_cons (ps_set (i := 7) sc_Shop_put.nd rfl (Or.inl rfl) (pe_call (ok_with_item T) (hr.mono (by decide)) rfl T.g_with_item T.k_with_item T.b_with_item .nil pass0 (pa_cons (pe_ix ix_tup (pv 6) (pv 1) (fun _ _ => rfl)) (pa_cons (pe_tup (pa_cons (pv 2) (pa_cons (pv 3) (pa_cons (pv 4) (pa_cons (pv 5) pa_nil))))) pa_nil))))
  (pss_one (ps_expr (pe_meth (pv 0) T.c_Shop T.t_Shop_change (ok_Shop_change T Er htop) (hr.mono (by decide)) T.b_Shop_change .nil (passes_call tk fun _ _ _ _ h => h) (pa_cons (pe_call (ok_exchanged T) (hr.mono (by decide)) rfl T.g_exchanged T.k_exchanged T.b_exchanged .nil pass0 (pa_cons (pv 6) (pa_cons (pv 1) (pa_cons (pv 7) pa_nil)))) (pa_cons (pe_fld (pe_fld (pv 0) rfl) rfl) pa_nil)))))))))), ?_⟩
    refine ⟨_, rfl, p, dx, _, rfl, hp, rfl, _, rfl, hd, ca, p, l, o, os, v0, r0, rfl, sh, h0.w .refl, fun e => kN e H .refl, fun e0 => ?_⟩
    refine ⟨_, rfl, p, T.a_Shop, dx, _, _, rfl, hp, T.c_Shop, T.f_Shop_kept_now, shF_n, _, rfl, _, rfl, _, rfl, (by show 3 ≤ sizeLine; decide), fun t ht => ?_⟩
    have kt : Ke H (upd H t (.tup [v1, v2, v3])) := Ke.new ht
    have ht1 : (upd H t (.tup [v1, v2, v3])) t = some (.tup [v1, v2, v3]) := upd_same
    generalize upd H t (.tup [v1, v2, v3]) = H1 at kt ht1 ⊢
    refine nilA ⟨C, q, o, t, v1, v2, v3, a, b, c, r1, r2, r3, rfl, oc, (of.ke (Le.ke Hd.le)).ke kt, ez, ht1, h1.ke kt, h2.ke kt, h3.ke kt, fun H2 k2 => ⟨_, rfl, ?_⟩⟩
    have k02 := kt.trans k2
    cases es : (r1 && r2 && r3) with
    | false => exact iteT (kT e0 es H2 k02)
    | true =>
      refine iteF (stepT ?_)
      have sh2 := sh.ke k02
      refine ⟨_, rfl, p, dx, _, rfl, k02.at hp, rfl, _, rfl, hd, ca, p, l, o, os, v4, r4, rfl, sh2, h4.w k02, fun e => kN2 e0 es e H2 k02, fun e4 => ?_⟩
      rw [Bool.and_eq_true, Bool.and_eq_true] at es
      obtain ⟨⟨e1, e2⟩, e3⟩ := es
      rw [e0] at h0
      rw [e1] at h1
      rw [e2] at h2
      rw [e3] at h3
      rw [e4] at h4
      obtain ⟨n0, rfl, n1, n2⟩ := h0.int
      obtain ⟨x, rfl, x1, x2⟩ := h1.int
      obtain ⟨y, rfl, y1, y2⟩ := h2.int
      obtain ⟨z, rfl, z1, z2⟩ := h3.int
      obtain ⟨g, rfl, g1, g2⟩ := h4.int
      obtain ⟨n, rfl⟩ : ∃ n : Nat, n0 = (n : Int) := ⟨n0.toNat, by omega⟩
      obtain ⟨row, hrow⟩ : ∃ r, o.mv[n]? = some r := ⟨_, List.getElem?_eq_getElem (by omega)⟩
      obtain ⟨rv, hrv, ra, rws, rfl, hra, prw⟩ := pget pm hrow
      obtain ⟨lro, nro⟩ := shp.rw_ row (List.mem_of_getElem? hrow)
      refine ⟨_, rfl, p, T.a_Shop, dx, _, _, rfl, k02.at hp, T.c_Shop, T.f_Shop_kept_now, shF_n, q, C, dxo, _, _, rfl, k02.at hq, oc.c, oc.n2, offF_m _ _ _ _, stepN ?_⟩
      refine ⟨_, rfl, _, rfl, mm, ms, n, _, rfl, rfl, SqT.of (k02.at hmm), atI_nat hrv rfl, _, rfl, _, rfl, _, rfl, _, rfl, (by show 4 ≤ sizeLine; decide), fun t2 ht2 => ?_⟩
      have kt2 : Ke H2 (upd H2 t2 (.tup [.int x, .int y, .int z, .int g])) := Ke.new ht2
      have ht3 : (upd H2 t2 (.tup [.int x, .int y, .int z, .int g])) t2 = some (.tup [.int x, .int y, .int z, .int g]) := upd_same
      generalize upd H2 t2 (.tup [.int x, .int y, .int z, .int g]) = H3 at kt2 ht3 ⊢
      have k03 := k02.trans kt2
      refine nilA ⟨.ref ra, .ref t2, rfl, .inl ⟨row, [x, y, z, g], ⟨ra, rws, rfl, k03.at hra, pimp (fun v x r => TI.stb _ _ v x k03.tx r) prw⟩, ⟨t2, rfl, ht3⟩, by omega, nro, (fun e => nomatch e), fun v' H4 k4 hv' => stepN ?_⟩⟩
      have k04 := k03.trans k4
      refine ⟨_, rfl, p, dx, _, rfl, k04.at hp, rfl, _, rfl, _, rfl, _, rfl, List (List Int), TT TI, .ref mm, v', n, o.mv, sortT (row ++ [[x, y, z, g]]), rfl, TT.stb TI.stb, ⟨mm, ms, rfl, k04.at hmm, pimp (fun v x r => TT.stb TI.stb _ _ v x k04.tx r) pm⟩, hv', by omega, by have := shp.n2; omega, fun v2 H5 k5 hv2 => ?_⟩
      have k05 := k04.trans k5
      refine ⟨_, rfl, p, T.a_Shop, dx, _, _, rfl, k05.at hp, T.c_Shop, T.f_Shop_kept_now, shF_n, q, C, dxo, _, _, rfl, k05.at hq, oc.c, oc.n3, offF_c _ _ _ _, ?_⟩
      refine nilA ⟨hd, ca, p, l, o, os, v2, vc, o.mv.set n (sortT (row ++ [[x, y, z, g]])), o.cl, rfl, sh.ke k05, los, hv2, TT.stb TI.stb _ _ _ _ k05.tx hc, shp.s3, by rw [List.length_set]; have := shp.n2; omega, fun zz => ?_, (k n x y z g row rfl rfl rfl rfl rfl hrow ⟨x1, x2⟩ ⟨y1, y2⟩ ⟨z1, z2⟩ ⟨g1, g2⟩).ke k05⟩
      obtain ⟨⟨m1, m2⟩, cc⟩ := shp.sh zz
      refine ⟨⟨by rw [List.length_set]; exact m1, fun r hr => ?_⟩, by rw [List.length_set]; exact cc⟩
      rw [List.length_set]
      rcases List.mem_or_eq_of_mem_set hr with yy | yy
      · exact m2 r yy
      · rw [yy]
        refine ⟨fun m hm => ?_, by rw [len_sortT, List.length_append, List.length_singleton]; omega⟩
        rcases List.mem_append.mp (mem_sortT.mp hm) with w | w
        · exact (m2 row (List.mem_of_getElem? hrow)).1 m w
        · rw [List.mem_singleton.mp w]; exact ⟨a, b, c, x, y, z, g, ez, rfl, ⟨x1, x2⟩, ⟨y1, y2⟩, ⟨z1, z2⟩, g1, g2⟩
end
end Fd
set_option Elab.async false
set_option linter.all false
set_option maxRecDepth 100000
set_option maxHeartbeats 4000000
/-! Pairs and triples of sets of standings: levels, bad pairs, the least number of neighbours, in plain words. -/
namespace Fd
/-- the mark of a step -/
def mk3 (st : List Int) : Int := st.getD 2 0
abbrev PrS := List Int × List Int
abbrev TrS := List Int × List Int × List Int
/-- steps with one mark lead from a pair to a pair -/
def LMs (o : Ofc) (p q : PrS) : Prop := ∃ st ∈ stepsOf o, ∃ st' ∈ stepsOf o, mk3 st = mk3 st' ∧ q = (goalsM o p.1 st, goalsM o p.2 st') ∧ q.1 ≠ [] ∧ q.2 ≠ []
/-- one and the same step leads from a pair to a pair -/
def LSs (o : Ofc) (p q : PrS) : Prop := ∃ st ∈ stepsOf o, q = (goalsM o p.1 st, goalsM o p.2 st) ∧ q.1 ≠ [] ∧ q.2 ≠ []
inductive Lv1 (o : Ofc) : PrS → Prop
  | z : Lv1 o ([0], [0])
  | s {p q : PrS} : Lv1 o p → LMs o p q → Lv1 o q
/-- the level of number n + 1 -/
def Lv (o : Ofc) : Nat → PrS → Prop
  | 0 => Lv1 o
  | n + 1 => fun q => ∃ p, Lv o n p ∧ LSs o p q
def Ts (o : Ofc) (t u : TrS) : Prop := ∃ st ∈ stepsOf o, ∃ st' ∈ stepsOf o, mk3 st = mk3 st' ∧ u = (goalsM o t.1 st, goalsM o t.2.1 st', goalsM o t.2.2 st') ∧ u.1 ≠ [] ∧ u.2.1 ≠ []
inductive Tr (o : Ofc) (t : TrS) : TrS → Prop
  | z : Tr o t t
  | s {u v : TrS} : Tr o t u → Ts o u v → Tr o t v
/-- a last mark with which the first two close and the third does not -/
def La (o : Ofc) (t : TrS) : Prop := ∃ m, m ∈ lastsM o t.1 ∧ m ∈ lastsM o t.2.1 ∧ m ∉ lastsM o t.2.2
def Bd (o : Ofc) (p : PrS) : Prop := ∃ t, Tr o (p.1, p.2, p.1) t ∧ La o t
/-- n + 1 neighbours are enough -/
def EnK (o : Ofc) (n : Nat) : Prop := ∀ p, Lv o n p → ¬ Bd o p
/-- what least_k tells: the least number, less 1 -/
def LK (o : Ofc) : Option Nat → Prop
  | some n => EnK o n ∧ ∀ m, m < n → ¬ EnK o m
  | none => ∀ m, ¬ EnK o m
theorem LK.uniq {o : Ofc} : ∀ {a b : Option Nat}, LK o a → LK o b → a = b
  | some n, some m, ⟨h1, h2⟩, ⟨g1, g2⟩ => by
    rcases Nat.lt_trichotomy n m with c | c | c
    · exact absurd h1 (g2 n c)
    · rw [c]
    · exact absurd g1 (h2 m c)
  | some n, none, ⟨h1, _⟩, g => absurd h1 (g n)
  | none, some m, h, ⟨g1, _⟩ => absurd g1 (h m)
  | none, none, _, _ => rfl
theorem LSs.lm {o : Ofc} {p q : PrS} (h : LSs o p q) : LMs o p q := by
  obtain ⟨st, hs, e, n⟩ := h
  exact ⟨st, hs, st, hs, rfl, e, n⟩
theorem Lv.sub {o : Ofc} : ∀ {n : Nat} {p : PrS}, Lv o (n + 1) p → Lv o n p
  | 0, _, ⟨_, h, s⟩ => .s h s.lm
  | n + 1, _, ⟨q, h, s⟩ => ⟨q, h.sub, s⟩
/-- a level that stands still stays -/
theorem Lv.still {o : Ofc} {n : Nat} (h : ∀ p, Lv o n p → Lv o (n + 1) p) : ∀ m, n ≤ m → ∀ p, Lv o n p → Lv o m p := by
  intro m hm
  induction m with
  | zero =>
    intro p hp
    have : n = 0 := by omega
    subst this; exact hp
  | succ m ih =>
    intro p hp
    by_cases c : n = m + 1
    · subst c; exact hp
    · obtain ⟨q, hq, s⟩ := h p hp
      exact ⟨q, ih (by omega) q hq, s⟩
theorem Lv.mono {o : Ofc} {n m : Nat} (h : n ≤ m) {p : PrS} (hp : Lv o m p) : Lv o n p := by
  induction m with
  | zero =>
    have : n = 0 := by omega
    subst this; exact hp
  | succ m ih =>
    by_cases c : n = m + 1
    · subst c; exact hp
    · exact ih (by omega) hp.sub
theorem EnK.mono {o : Ofc} {n m : Nat} (h : n ≤ m) (e : EnK o n) : EnK o m := fun p hp => e p (hp.mono h)
/-- a level that stands still with a bad pair: no number is enough -/
theorem LK.none_of {o : Ofc} {n : Nat} {p : PrS} (h : ∀ p, Lv o n p → Lv o (n + 1) p) (hp : Lv o n p) (hb : Bd o p) : LK o none := fun m e => by
  rcases Nat.le_total n m with c | c
  · exact e p (Lv.still h m c p hp) hb
  · exact (e.mono c) p hp hb
theorem LK.some_of {o : Ofc} {n : Nat} (h : EnK o n) (g : ∀ m, m < n → ∃ p, Lv o m p ∧ Bd o p) : LK o (some n) := ⟨h, fun m hm e => by
  obtain ⟨p, h1, h2⟩ := g m hm
  exact e p h1 h2⟩
/-- the sets of a pair of a level can be come to -/
theorem Lv1.reach {o : Ofc} {p : PrS} (h : Lv1 o p) : Reach o p.1 ∧ Reach o p.2 := by
  induction h with
  | z => exact ⟨.z, .z⟩
  | s _ m ih =>
    obtain ⟨st, hs, st', hs', _, rfl, n1, n2⟩ := m
    exact ⟨.s ih.1 hs n1, .s ih.2 hs' n2⟩
theorem Lv.reach {o : Ofc} {n : Nat} {p : PrS} (h : Lv o n p) : Reach o p.1 ∧ Reach o p.2 := Lv1.reach (show Lv1 o p from h.mono (Nat.zero_le n))
theorem Reach.ks {o : Ofc} {ks : List (List Int)} (k : KsI o ks) (cl : Closed o ks ks.length) {s : List Int} (h : Reach o s) : s ∈ ks := by
  induction h with
  | z => exact List.mem_of_getElem? k.hd
  | @s s st _ hs hn ih =>
    obtain ⟨i, hi⟩ := List.mem_iff_getElem?.mp ih
    exact cl i s (List.getElem?_eq_some_iff.mp hi).1 hi st hs hn
end Fd
set_option Elab.async false
set_option linter.all false
set_option maxRecDepth 100000
set_option maxHeartbeats 4000000
/-! {k: v for target in iter if ..}, the keys tuples. -/
namespace Fd
open PySem PySem.Spec PyProof.Rows L2
section
variable {X : Cx}
/-- one pair is put into the dict of a comprehension -/
theorem put_compT {pins : List (Addr × Obj)} {σ : L2.St} {H : Hp} {s : Shared} {E : Value → Shared → Prop} {D b : Addr} {kvs : List (List Key × V)} {k : List Key} {v : V} {r : Value} {Q : Unit → Shared → Prop} (hu : X.A.units + 1 < cLine) (I : Inv X pins σ H s) (hD : H D = some (.dT kvs)) (hz : kvs.length < sizeLine)
    (eb : H b = some (.tup (k.map kV))) (rv : RelV v r) (q : ∀ s', Inv X pins σ (upd H D (.dT (putK kvs k v))) s' → Q () s') : wpAny (model X.prog X.w) X.A (dictSet D (.ref b) r) Q E s := by
  obtain ⟨z, hd, xs, rel, dd⟩ := dt_of I.hok hD
  have few : xs.length ≤ sizeLine := by rw [← Paired.length rel]; exact z
  have more : (putK kvs k v).length ≤ sizeLine := by have := length_putK kvs k v; omega
  refine wpAny_dictSet_heap (knd := tupleKind (mixKind X.prog X.w)) (hsz := few) (show X.A.units < cLine by omega) (key_of I.hok eb) dd fun h' dd' sb => q _ ?_
  obtain ⟨o, es, ep, g1, g2, g3, g4, g5, g6⟩ := dd'
  refine d_write (t' := s.toks + _) I (by rw [hD]; exact True.intro) sb ⟨o, g1⟩ ⟨more, hd, _, (rel.put k eb rv).keeps fun c ys ec => ?_, o, es, ep, g1, g2, g3, g4, g6⟩
  rw [upd_ne (ne_of ec hD (fun z => nomatch z))]
  exact ec
/-- the reading -/
def tDcT (wi : L2.TI) (g : TG) (tt : L2.TT) (tk tv : TE) (vs : List Nat) : TE := fun σ H Q => wi σ H fun J H1 => ∀ D, H1 D = none → ∃ W : Nat → Nat → Hp → Prop, (∃ m, W 0 m (upd H1 D (.dT []))) ∧ ∀ i m H2, W i m H2 →
  (J.stop i H2 ∧ Q (.ref D) H2) ∨ (J.go i H2 ∧ ∃ Nx : Hp → Prop, (∀ H3, Nx H3 → ∃ n, n < m ∧ W (i + 1) n H3) ∧ ∀ x H3, J.yld i H2 x H3 → g x (wipe σ vs) H3 fun σ2 H4 => wipe σ2 vs = wipe σ vs ∧ tt σ2 H4 fun b H5 =>
    if b = true then tk σ2 H5 fun y H6 => tv σ2 H6 fun z H7 => ∃ kvs k a, y = .ref a ∧ H7 a = some (.tup (k.map kV)) ∧ H7 D = some (.dT kvs) ∧ kvs.length < sizeLine ∧ Nx (upd H7 D (.dT (putK kvs k z))) else Nx H5)
theorem dcT_core {pins : List (Addr × Obj)} {s : Shared} {σ : L2.St} {H : Hp} {Q : VK} {pos' : Pos} {use : Option (Value → Sem Unit)} {Qf : Value → Shared → Prop} {kx vx tg iter : Expr} {ifs : List Expr} {scope : Scope} {own : List (Str × Nat)} {pos : Pos} {wi : L2.TI} {g : TG} {tt : L2.TT} {tk tv : TE} (hu : X.A.units + 1 < cLine) (I : Inv X pins σ H s) (hc : X.calm = true) (hN : X.N.Nodup) (hi : PI X tg iter wi) (ok : BlkOk X.N X.env.scope scope own)
    (hg : ∀ (s : Shared) (H : Hp) (C : Addr) (cl : List (Str × Addr)) (fp : List Addr), PG (X.blk s H scope (compEnvC scope cl C X.env) fp) tg g) (ht : ∀ (s : Shared) (H : Hp) (C : Addr) (cl : List (Str × Addr)) (fp : List Addr), PTs (X.blk s H scope (compEnvC scope cl C X.env) fp) ifs tt)
    (hk : ∀ (s : Shared) (H : Hp) (C : Addr) (cl : List (Str × Addr)) (fp : List Addr), PE (X.blk s H scope (compEnvC scope cl C X.env) fp) kx tk)
    (he : ∀ (s : Shared) (H : Hp) (C : Addr) (cl : List (Str × Addr)) (fp : List Addr), PE (X.blk s H scope (compEnvC scope cl C X.env) fp) vx tv) (hs : ∀ x, foldedSetIterable iter X.env x = pure x)
    (h : tDcT wi g tt tk tv (own.map (·.2)) σ H Q) (hend : ∀ D C s' m H', Inv X pins σ H' s' → Q (.ref D) H' → s'.heap.Ns C m → FpOk X pins H' C → compPost (model X.prog X.w) X.A X.xe use Qf (.ref D) C (.ok .next) s') :
    wpAny (model X.prog X.w) X.A (comprehension (.DictComp kx vx [⟨tg, iter, ifs, 0⟩] scope pos) scope X.env pos' newDict false (eval iter X.env) use) Qf X.xe s := by
  have free : ∀ y ∈ scope.names, y.2 = .free → ∃ c, X.env.cells.lookup y.1 = some c := fun y hy e => (ok.free y hy e).elim (fun k => I.ok.has _ (.inl k)) fun k => I.ok.has _ (.inr k)
  refine wpAny_comprehension_free (use := use) rfl hs (closure_ok free) ok.kind (fun y hy e => by rw [ok.uniq y hy, e]) (thn (hi.run pins s σ H _ I h) fun xv s1 hx => thn hx fun itv s2 ⟨it, fp, tn, J, H2, e, I2, TN, st2, f2, q⟩ => ?_)
  cases e
  refine wpAny_newObj_type (newEnv_comp ?_)
  -- the dict, empty
  have dn : H2 s2.heap.objs.size = none := I2.hok.fresh (Nat.le_refl _)
  obtain ⟨W, ⟨m0, w0⟩, turn⟩ := q _ dn
  have Ia := I2.laid (a := s2.heap.objs.size) (o := .dT []) (h' := s2.heap.push { cls := .type "dict", data := .dict #[] }) (t' := s2.toks) (fun _ _ z => Heap.get?_push_of_some _ z) (Nat.le_refl _) (dt_empty s2.heap I2.big)
  generalize edd : s2.heap.objs.size = D at dn w0 turn Ia ⊢
  generalize es3 : ({ s2 with heap := s2.heap.push { cls := .type "dict", data := .dict #[] } } : Shared) = s3 at Ia ⊢
  have hp3 : s3.heap = s2.heap.push { cls := .type "dict", data := .dict #[] } := by rw [← es3]
  have below : ∀ b ∈ fp, b < s2.heap.objs.size := fun b hb => by
    obtain ⟨ob, z, _⟩ := TN.obj _ _ st2 b hb
    exact Heap.lt_size z
  have f3 : ∀ b ∈ fp, FpOk X pins (upd H2 D (.dT [])) b ∧ b < s3.heap.objs.size := fun b hb => by
    have lt := below b hb
    refine ⟨⟨?_, (f2 b hb).2⟩, by rw [hp3, Heap.size_push]; exact Nat.lt_succ_of_lt lt⟩
    rw [upd_ne (show b ≠ D by rw [← edd]; exact Nat.ne_of_lt lt)]
    exact (f2 b hb).1
  have sta : tn 0 s3.heap := TN.keep _ _ _ st2 fun b _ ob z => by rw [hp3]; exact Heap.get?_push_of_some _ z
  have Ib := block_start Ia ok hN f3
  have no3 : ∀ b ∈ fp, (upd H2 D (.dT [])) b = none := fun b hb => (f3 b hb).1.1
  have pg := hg s3 (upd H2 D (.dT [])) s3.heap.objs.size (cellsFrom (s3.heap.objs.size + 1) scope.names (cloFrom X.env.cells scope.names [])) fp
  have pt := ht s3 (upd H2 D (.dT [])) s3.heap.objs.size (cellsFrom (s3.heap.objs.size + 1) scope.names (cloFrom X.env.cells scope.names [])) fp
  have pk := hk s3 (upd H2 D (.dT [])) s3.heap.objs.size (cellsFrom (s3.heap.objs.size + 1) scope.names (cloFrom X.env.cells scope.names [])) fp
  have pv := he s3 (upd H2 D (.dT [])) s3.heap.objs.size (cellsFrom (s3.heap.objs.size + 1) scope.names (cloFrom X.env.cells scope.names [])) fp
  show codeAny _ _ (.compStart (.DictComp kx vx [⟨tg, iter, ifs, 0⟩] scope pos) 0 (.ref it) (.ref D) (compEnvC scope (cellsFrom (s3.heap.objs.size + 1) scope.names (cloFrom X.env.cells scope.names [])) s3.heap.objs.size X.env))
    (compPost (model X.prog X.w) X.A X.xe use Qf (.ref D) s3.heap.objs.size) { s3 with heap := pushCells (s3.heap.push { cls := .type "dict", data := .dict #[] }) scope.names }
  have loc : (compEnvC scope (cellsFrom (s3.heap.objs.size + 1) scope.names (cloFrom X.env.cells scope.names [])) s3.heap.objs.size X.env).locals = s3.heap.objs.size := rfl
  generalize compEnvC scope (cellsFrom (s3.heap.objs.size + 1) scope.names (cloFrom X.env.cells scope.names [])) s3.heap.objs.size X.env = ce at Ib pg pt pk pv loc ⊢
  generalize upd H2 D (.dT []) = Hd0 at Ia Ib pg pt pk pv w0 no3 f3
  generalize es4 : ({ s3 with heap := pushCells (s3.heap.push { cls := .type "dict", data := .dict #[] }) scope.names } : Shared) = s4 at Ib ⊢
  have stb : tn 0 s4.heap := TN.keep _ _ _ sta fun b _ ob z => by rw [← es4]; exact pushCells_keeps _ _ _ _ (Heap.get?_push_of_some _ z)
  have stands : ∀ {σ' : L2.St} {Hn : Hp} {sn : Shared}, Inv (X.blk s3 Hd0 scope ce fp) [] σ' Hn sn → (∀ b ∈ fp, Hn b = none) → ∀ b ∈ fp, FpOk (X.blk s3 Hd0 scope ce fp) [] Hn b := fun {σ' Hn sn} In no b hb =>
    ⟨no b hb, (In.ok.exf b hb).1, In.ok.exfs b hb, .inl hb, fun x c z => (In.ok.exf b hb).2 x c z, fun p hp => absurd (show p ∈ ([] : List (Addr × Obj)) ++ [] from hp) (by simp)⟩
  have go : codeAny (model X.prog X.w) X.A (.compLoop (.DictComp kx vx [⟨tg, iter, ifs, 0⟩] scope pos) 0 (.ref it) (.ref D) ce) (compPost (model X.prog X.w) X.A X.xe use Qf (.ref D) s3.heap.objs.size) s4 := by
    refine compLoop_anyD (fun n sn => ∃ i Hn, Inv (X.blk s3 Hd0 scope ce fp) [] (wipe σ (own.map (·.2))) Hn sn ∧ tn i sn.heap ∧ (∀ b ∈ fp, Hn b = none) ∧ W i n Hn) ?_ m0 ⟨0, Hd0, Ib, stb, no3, w0⟩
    rintro n s5 ⟨i, H5, I5, st5, no5, w5⟩
    rcases turn i n H5 w5 with ⟨stop, q5⟩ | ⟨goes, Nx, next, step⟩
    · refine thnF (TN.done (X.blk s3 Hd0 scope ce fp) rfl rfl rfl hc i [] s5 _ H5 (fun _ _ => False) I5 (stands I5 no5) st5 stop) fun r s6 ⟨er, I6⟩ => ?_
      cases er
      have I7 : Inv X pins σ H5 s6 := Ia.call' (ch := fp) I6.os I6.base I6.hok I6.bare fun b hb => ⟨(f3 b hb).1.2.2.2.1, (f3 b hb).1.2.1, (f3 b hb).1.2.2.2.2.1, (f3 b hb).1.2.2.2.2.2⟩
      have freeC : H5 s3.heap.objs.size = none := by
        have z : H5 ce.locals = none := I6.free
        rwa [loc] at z
      obtain ⟨names, hnames, _⟩ := I6.loc
      have hnames : s6.heap.Ns ce.locals names := hnames
      rw [loc] at hnames
      exact hend D _ s6 names H5 I7 q5 hnames (Ia.fpOk (Nat.le_refl _) freeC)
    · refine thnF (TN.item (X.blk s3 Hd0 scope ce fp) rfl rfl rfl hc i [] s5 _ H5 (fun _ _ => False) I5 (stands I5 no5) st5 goes) fun r s6 ⟨u, er, h6⟩ => ?_
      cases er
      refine thnF h6 fun _ s7 ⟨x, H7, I7, r7, y7, st7, no7⟩ => ?_
      refine thnF (pg.run _ s7 _ H7 x u _ (I7.pinned (stands I7 no7) (TN.obj _ _ st7)) r7 (step x H7 y7)) fun _ s8 ⟨σ8, H8, I8, same8, q8⟩ => ?_
      refine thnF (pt.run _ s8 σ8 H8 _ I8 q8) fun b s9 ⟨H9, I9, q9⟩ => ?_
      have fin : ∀ {sn : Shared} {Hn : Hp}, Inv (X.blk s3 Hd0 scope ce fp) ([] ++ pinsAt fp s7.heap) σ8 Hn sn → Nx Hn → ∃ m, m < n ∧ ∃ i Hn, Inv (X.blk s3 Hd0 scope ce fp) [] (wipe σ (own.map (·.2))) Hn sn ∧ tn i sn.heap ∧ (∀ b ∈ fp, Hn b = none) ∧ W i m Hn := fun {sn Hn} In nx => by
        obtain ⟨m, hm, wn⟩ := next Hn nx
        have pinned : ∀ b ∈ fp, ∀ ob, s7.heap.get? b = some ob → sn.heap.get? b = some ob ∧ Hn b = none := fun b hb ob z => by
          have := In.pin (b, ob) (List.mem_append_right _ (List.mem_append_right _ (mem_pinsAt hb z)))
          exact ⟨this.1, this.2.1⟩
        refine ⟨m, hm, i + 1, Hn, (In.unpinned (pins := [])).weak (by rw [← same8, wipe_length]) (fun j v z => ?_), TN.keep _ _ _ st7 fun b hb ob z => (pinned b hb ob z).1, fun b hb => ?_, wn⟩
        · rw [← same8] at z
          exact (wipe_some z).1
        · obtain ⟨ob, z, _⟩ := TN.obj _ _ st7 b hb
          exact (pinned b hb ob z).2
      cases b with
      | false =>
        simp only [Bool.false_eq_true, if_false] at q9 ⊢
        exact fin I9 q9
      | true =>
        simp only [if_true] at q9 ⊢
        refine thnF (pk.run _ s9 σ8 H9 _ I9 q9) fun ku s10 ⟨y, H10, I10, ry, q10⟩ => ?_
        refine thnF (pv.run _ s10 σ8 H10 _ I10 q10) fun vu s11 ⟨z, H11, I11, rz, kvs, k, a, ey, ha, hD, hz, nx⟩ => ?_
        subst ey
        cases ry
        exact put_compT (X := X.blk s3 Hd0 scope ce fp) hu I11 hD hz ha rz fun s12 I12 => fin I12 nx
  exact codeAny_compStart_dict go (TN.self X.A 0 _ _ _ stb go)
theorem pe_dcT {kx vx tg iter : Expr} {ifs : List Expr} {scope : Scope} {own : List (Str × Nat)} {pos : Pos} {wi : L2.TI} {g : TG} {tt : L2.TT} {tk tv : TE} (hu : X.A.units + 1 < cLine) (hc : X.calm = true) (hN : X.N.Nodup) (hi : PI X tg iter wi) (ok : BlkOk X.N X.env.scope scope own)
    (hg : ∀ (s : Shared) (H : Hp) (C : Addr) (cl : List (Str × Addr)) (fp : List Addr), PG (X.blk s H scope (compEnvC scope cl C X.env) fp) tg g) (ht : ∀ (s : Shared) (H : Hp) (C : Addr) (cl : List (Str × Addr)) (fp : List Addr), PTs (X.blk s H scope (compEnvC scope cl C X.env) fp) ifs tt)
    (hk : ∀ (s : Shared) (H : Hp) (C : Addr) (cl : List (Str × Addr)) (fp : List Addr), PE (X.blk s H scope (compEnvC scope cl C X.env) fp) kx tk)
    (he : ∀ (s : Shared) (H : Hp) (C : Addr) (cl : List (Str × Addr)) (fp : List Addr), PE (X.blk s H scope (compEnvC scope cl C X.env) fp) vx tv) (hs : ∀ x, foldedSetIterable iter X.env x = pure x := by intro _; rfl) :
    PE X (.DictComp kx vx [⟨tg, iter, ifs, 0⟩] scope pos) (tDcT wi g tt tk tv (own.map (·.2))) := by
  refine ⟨fun pins s σ H Q I h => ?_⟩
  rw [arm_eval_DictComp]
  refine dcT_core hu I hc hN hi ok hg ht hk he hs h fun D C s' m H' I' q hn f => ⟨m, hn, fun hh sb => ?_⟩
  obtain ⟨g0, g1, g2, g3, g4, g5⟩ := f
  exact ⟨.ref D, H', I'.turned (t' := s'.toks) (fun b ob hb z => (sb.2 b hb).trans z) g0 g1 g3 g4 g5, rfl, q⟩
/-- y = {k: v for ..}, y a local name -/
theorem ps_setDcT {i : Nat} {y : Str} {py spos : Pos} {kx vx tg iter : Expr} {ifs : List Expr} {scope : Scope} {own : List (Str × Nat)} {pos : Pos} {wi : L2.TI} {g : TG} {tt : L2.TT} {tk tv : TE} (hu : X.A.units + 1 < cLine) (hc : X.calm = true) (hN : X.N.Nodup) (hy : X.N[i]? = some y) (hyl : X.env.scope.names.lookup y = some .local) (hsw : swapsWith (.DictComp kx vx [⟨tg, iter, ifs, 0⟩] scope pos) (some (.Name y py)) spos.line X.env = pure true) (hi : PI X tg iter wi) (ok : BlkOk X.N X.env.scope scope own)
    (hg : ∀ (s : Shared) (H : Hp) (C : Addr) (cl : List (Str × Addr)) (fp : List Addr), PG (X.blk s H scope (compEnvC scope cl C X.env) fp) tg g) (ht : ∀ (s : Shared) (H : Hp) (C : Addr) (cl : List (Str × Addr)) (fp : List Addr), PTs (X.blk s H scope (compEnvC scope cl C X.env) fp) ifs tt)
    (hk : ∀ (s : Shared) (H : Hp) (C : Addr) (cl : List (Str × Addr)) (fp : List Addr), PE (X.blk s H scope (compEnvC scope cl C X.env) fp) kx tk)
    (he : ∀ (s : Shared) (H : Hp) (C : Addr) (cl : List (Str × Addr)) (fp : List Addr), PE (X.blk s H scope (compEnvC scope cl C X.env) fp) vx tv) (hs : ∀ x, foldedSetIterable iter X.env x = pure x := by intro _; rfl) :
    PS X (.Assign [.Name y py] (.DictComp kx vx [⟨tg, iter, ifs, 0⟩] scope pos) spos) (tAsg (tDcT wi g tt tk tv (own.map (·.2))) (gName i)) := by
  refine ⟨fun pins s σ H D I h => ?_⟩
  rw [exec_Assign_Name_used _ _ _ _ hsw]
  refine wpAny_bind (wpAny_standAt (wpAny_bind ?_))
  show wpAny _ X.A (do let _ ← comprehension (.DictComp kx vx [⟨tg, iter, ifs, 0⟩] scope pos) scope X.env (firstIterPos [⟨tg, iter, ifs, 0⟩] pos) newDict false (eval iter X.env) (some (assign (.Name y py) X.env))) _ _ s
  have h' : tDcT wi g tt tk tv (own.map (·.2)) σ H (fun x H1 => gName i x σ H1 D.nx) := h
  refine wpAny_bind (thn (dcT_core (Qf := fun _ s' => SP X pins D .next s') hu I hc hN hi ok hg ht hk he hs h' fun L C s' m H' I' q hn f => ?_) fun _ s' hq => wpAny_pure (wpAny_pure hq))
  show wpAny _ _ (assign (.Name y py) X.env (.ref L)) _ _ _
  refine wpAny_assign_Name (store_ok2 (v := V.ref L) I' hN hy (.inl hyl) rfl (fun s2 I2 ⟨a, sb, ha⟩ => ?_) (.inr hyl))
  obtain ⟨g0, g1, g2, g3, g4, g5⟩ := f
  have nCa : C ≠ a := ha.elim (fun z => by rw [z]; exact g1) fun z e => g4 y a z e.symm
  exact ⟨m, hn.sameBut sb nCa, fun h3 sb3 => ⟨_, H', I2.turned (t' := s2.toks) (fun b o hb e => (sb3.2 b hb).trans e) g0 g1 g3 g4 g5, q⟩⟩
theorem sw_trueD {kx vx : Expr} {gs : List Comprehension} {scope : Scope} {pos py : Pos} {y : Str} {l : Nat} {env : Env} (hk : env.scope.kind = .function) (hy : env.scope.names.lookup y = some .local) (hl : (py.line == pos.line) = true)
    (ha : (scope.names.any fun (n, k) => n == y && (k == .local || k == .cell)) = false) : swapsWith (.DictComp kx vx gs scope pos) (some (.Name y py)) l env = pure true := by
  have e1 : env.kindOf y = some .local := hy
  have e2 : env.blockKind = .function := by unfold Env.blockKind; rw [hk]; rfl
  unfold swapsWith
  simp only [e1, e2, ha, Expr.pos, hl]
  rfl
/-- .. over a walk: Pv by the turn and the heap -/
theorem dc_itT {J : It} {n : Nat} {G : Hp → Prop} {Y : Nat → Hp → V → Hp → Prop} (w : Walk J n G Y) {g : TG} {tt : L2.TT} {tk tv : TE} {vs : List Nat} {σ : L2.St} {H1 : Hp} {D : Addr} {Qd : Hp → Prop} (Pv : Nat → Hp → Prop) (h0 : Pv 0 (upd H1 D (.dT []))) (hG : ∀ i H, i ≤ n → Pv i H → G H)
    (hs : ∀ i x H H3, i < n → Pv i H → Y i H x H3 → g x (wipe σ vs) H3 fun σ2 H4 => wipe σ2 vs = wipe σ vs ∧ tt σ2 H4 fun b H5 =>
      if b = true then tk σ2 H5 fun y H6 => tv σ2 H6 fun z H7 => ∃ kvs k a, y = .ref a ∧ H7 a = some (.tup (k.map kV)) ∧ H7 D = some (.dT kvs) ∧ kvs.length < sizeLine ∧ Pv (i + 1) (upd H7 D (.dT (putK kvs k z))) else Pv (i + 1) H5) (hd : ∀ H, Pv n H → Qd H) :
    ∃ W : Nat → Nat → Hp → Prop, (∃ m, W 0 m (upd H1 D (.dT []))) ∧ ∀ i m H2, W i m H2 → (J.stop i H2 ∧ Qd H2) ∨ (J.go i H2 ∧ ∃ Nx : Hp → Prop, (∀ H3, Nx H3 → ∃ n, n < m ∧ W (i + 1) n H3) ∧ ∀ x H3, J.yld i H2 x H3 → g x (wipe σ vs) H3 fun σ2 H4 => wipe σ2 vs = wipe σ vs ∧ tt σ2 H4 fun b H5 =>
      if b = true then tk σ2 H5 fun y H6 => tv σ2 H6 fun z H7 => ∃ kvs k a, y = .ref a ∧ H7 a = some (.tup (k.map kV)) ∧ H7 D = some (.dT kvs) ∧ kvs.length < sizeLine ∧ Nx (upd H7 D (.dT (putK kvs k z))) else Nx H5) := by
  refine ⟨fun i m H => m = n - i ∧ i ≤ n ∧ Pv i H, ⟨n, by simp, Nat.zero_le _, h0⟩, ?_⟩
  rintro i m H ⟨rfl, hi, p⟩
  by_cases lt : i < n
  · exact .inr ⟨w.goes i H lt (hG i H hi p), Pv (i + 1), fun H3 p3 => ⟨n - (i + 1), by omega, rfl, lt, p3⟩, fun x H3 y => hs i x H H3 lt p (w.yields i H x H3 lt (hG i H hi p) y)⟩
  · obtain rfl : i = n := by omega
    exact .inl ⟨w.stops H (hG i H hi p), hd H p⟩
end
end Fd
set_option Elab.async false
set_option linter.all false
set_option maxRecDepth 100000
set_option maxHeartbeats 4000000
namespace Fd
open PySem PySem.Spec PyProof.Rows L2 RZ
/-- a number of a reader's set, or DEAD -/
def NumOk (ks : List (List Int)) (i : Int) : Prop := i = -1 ∨ 0 ≤ i ∧ i < ks.length
/-- a step leads on from the set of number i -/
def Mv (o : Ofc) (ks : List (List Int)) (i : Int) (st : List Int) : Prop := 0 ≤ i ∧ ∃ s, ks[i.toNat]? = some s ∧ st ∈ stepsOf o ∧ goalsM o s st ≠ []
open Classical in
noncomputable def behindM (o : Ofc) (ks : List (List Int)) (i : Int) (st : List Int) : Int := if Mv o ks i st then (ks.idxOf (goalsM o (ks.getD i.toNat []) st) : Nat) else -1
def closesM (o : Ofc) (ks : List (List Int)) (i last : Int) : Bool := decide (i ≠ -1) && decide (last ∈ lastsM o (ks.getD i.toNat []))
def sp_behind (C : Addr) : Sp := fun xs H Q _ => ∃ p o ks i v st, xs = [.ref p, .int i, v] ∧ ReaderAt C H p o ks ∧ NumOk ks i ∧ TI H v st ∧ Q (.int (behindM o ks i st)) H
def sp_closes (C : Addr) : Sp := fun xs H Q _ => ∃ p o ks i last, xs = [.ref p, .int i, .int last] ∧ ReaderAt C H p o ks ∧ NumOk ks i ∧ Q (.bl (closesM o ks i last)) H
/-- a locked dict is given back -/
theorem lock_ke {H H' : Hp} {d : Addr} {u : HO} (h : H d = some u) (nt : ∀ xs, u ≠ .tup xs) (k : Ks (fun a => a = d) H H') : Ke H (upd H' d u) := by
  refine Ke.of fun a o e => ?_
  by_cases c : a = d
  · subst c; rw [upd_same, ← h, e]
  · rw [upd_ne c]; exact k.keep a o c e
theorem lock_ks {H : Hp} {d : Addr} {u : HO} {od : Obj} (h : H d = some u) (nt : ∀ xs, u ≠ .tup xs) : Ks (fun a => a = d) H (upd H d (.frz od u)) := Ks.mut .refl rfl fun xs e => by rw [h] at e; exact nt xs (Option.some.inj e)
/-- a dict as a set of steps -/
def DST (H : Hp) (f : Addr) (p : List Int → Prop) : Prop := ∃ (kvs : List (List Key × V)) (ks : List (List Int)), H f = some (.dT kvs) ∧ kvs.map (·.1) = ks.map keyI ∧ ks.Nodup ∧ ∀ x, x ∈ ks ↔ p x
theorem DST.put {H : Hp} {f : Addr} {p q : List Int → Prop} {kvs : List (List Key × V)} {ks : List (List Int)} {g : List Int} {v : V} (e : kvs.map (·.1) = ks.map keyI) (hn : ks.Nodup) (hm : ∀ x, x ∈ ks ↔ p x) (hq : ∀ x, q x ↔ p x ∨ x = g) : DST (upd H f (.dT (putK kvs (keyI g) v))) f q :=
  ⟨_, addk ks g, upd_same, keys_put keyI (fun _ _ z => keyI_inj z) e, addk_nodup hn, fun x => by rw [mem_addk, hm, hq]⟩
theorem steps_three {o : Ofc} {st : List Int} (h : st ∈ stepsOf o) : st.length = 3 := by
  obtain ⟨x, hx, h⟩ := List.mem_flatMap.mp h
  obtain ⟨k, _, rfl⟩ := List.mem_map.mp h
  obtain ⟨s, _, hx⟩ := List.mem_flatMap.mp hx
  obtain ⟨n, _, rfl⟩ := List.mem_map.mp hx
  rfl
theorem ReaderAt.off {C C' : Addr} {H : Hp} {pr p dx : Addr} {o : Ofc} {ks : List (List Int)} (x : ReaderAt C H pr o ks) (hp : H p = some (.ins C' dx [])) : ReaderAt C (Hd (fun a => a = p) H) pr o ks := by
  obtain ⟨dx', tl, sl, kl, tws, sws, kws, h1, ⟨h2, h3⟩, ⟨h4, h5⟩, h6, h7⟩ := x.ex
  have tx : Tx H (Hd (fun a => a = p) H) := ⟨fun a xs h => Hd.get (fun e => by rw [e, hp] at h; cases h) h⟩
  refine ⟨dx', tl, sl, kl, tws, sws, kws, Hd.get (fun e => ?_) h1, ⟨Hd.get (fun e => by rw [e, hp] at h2; cases h2) h2, pimp (fun v s ⟨d, kvs, rk, e, hd, g⟩ => ⟨d, kvs, rk, e, Hd.get (fun e => by rw [e, hp] at hd; cases hd) hd, g⟩) h3⟩, ⟨Hd.get (fun e => by rw [e, hp] at h4; cases h4) h4, pimp (fun v x r => TI.stb _ _ v x tx r) h5⟩, Hd.get (fun e => by rw [e, hp] at h6; cases h6) h6, pimp (fun v x r => TI.stb _ _ v x tx r) h7⟩
  rw [e, hp] at h1
  have e2 := congrArg (fun o => match o with | some (HO.ins _ _ fs) => fs.lookup ("table" : Str) | _ => none) h1
  have e3 : (none : Option V) = (rdF (.ref tl) (.ref sl) (.ref kl)).lookup ("table" : Str) := e2
  rw [rdF_t] at e3
  cases e3
section
variable {P : Program} {w : World} {K : PySem.W.Frag} {mg : Str → Option Value} {base : Heap} (T : Txt K mg)
include T
theorem ok_Reader_behind : FnOk P w K mg base CX0 1 T.a_Reader_behind T.d_Reader_behind P_Reader_behind (sp_behind T.a_Reader) := by
  refine T.F_Reader_behind.ok sc_Reader_behind (fun vs H Q E h => ?_) (fun cdv A outer s H vs Q E hr h => ?_)
  · obtain ⟨p, o, ks, i, v, st, rfl, _⟩ := h; rfl
  · obtain ⟨p, o, ks, i, v, st, rfl, ra, ni, ⟨a, rfl, ha⟩, k⟩ := h
    have hu := hu_of hr
    have rc := T.rc
    obtain ⟨dx, tl, sl, kl, tws, sws, kws, hp, ⟨ht, pt⟩, ⟨hs, ps⟩, hk, pk⟩ := ra.ex
    refine ⟨_, (pss_cons (ps_if (pt_cmpR op_eq (pv 1) (pe_glob (v := .int (-1)) rfl T.g_DEAD ⟨_, rfl⟩) (nomark _)) (pss_one (ps_ret (pe_glob (v := .int (-1)) rfl T.g_DEAD ⟨_, rfl⟩))) pss_nil)
  (pss_one (ps_ret (pe_dget2 hu (pe_ix ix_list (pe_fld (pv 0) rfl) (pv 1) (fun _ _ => rfl)) (pv 2) (pe_glob (v := .int (-1)) rfl T.g_DEAD ⟨_, rfl⟩) ⟨rfl, rfl, rfl, rfl⟩)))), ?_⟩
    refine ⟨_, rfl, rfl, _, rfl, ?_⟩
    by_cases c : i = -1
    · refine ifT (by rw [c]) ?_
      have : behindM o ks i st = -1 := by unfold behindM; rw [if_neg (fun z => by have := z.1; omega)]
      rw [this] at k
      exact k
    · refine ifF (fun z => c (by injection z)) ?_
      have hi : 0 ≤ i ∧ i < ks.length := ni.elim (fun z => absurd z c) id
      obtain ⟨s', hs'⟩ : ∃ s, ks[i.toNat]? = some s := ⟨_, List.getElem?_eq_getElem (by omega)⟩
      obtain ⟨rv, hrv, d, kvs, rk, rfl, hd, h1, h2, h3, h4⟩ := pget pt hs'
      refine ⟨_, rfl, p, _, dx, _, _, rfl, hp, rc.c, rc.n1, rdF_t _ _ _, _, rfl, tl, tws, i, _, rfl, rfl, SqL.of ht, atI_nat hrv (by omega), d, rfl, .inr ⟨_, .inl hd⟩, _, rfl, _, DGet.t (k := keyI st) hd (by rw [keyI_kV]; exact ha), ?_⟩
      have eg : ks.getD i.toNat [] = s' := by rw [List.getD_eq_getElem?_getD, hs']; rfl
      rw [h4]
      by_cases cr : st ∈ rk
      · have : Mv o ks i st := ⟨hi.1, s', hs', ((h3 st).mp cr).1, ((h3 st).mp cr).2⟩
        have e : behindM o ks i st = (ks.idxOf (goalsM o s' st) : Nat) := by unfold behindM; rw [if_pos this, eg]
        rw [if_pos cr]; rw [e] at k; exact k
      · have : ¬ Mv o ks i st := fun ⟨_, s2, hs2, z1, z2⟩ => by
          rw [hs'] at hs2; cases hs2
          exact cr ((h3 st).mpr ⟨z1, z2⟩)
        have e : behindM o ks i st = -1 := by unfold behindM; rw [if_neg this]
        rw [if_neg cr]; rw [e] at k; exact k
end
end Fd
set_option Elab.async false
set_option linter.all false
set_option maxRecDepth 100000
set_option maxHeartbeats 4000000
/-! What is new; comprehensions over a walk, told by data. -/
namespace Fd
open PySem PySem.Spec PyProof.Rows L2
/-- an address at which something stands that is no tuple -/
def Old (H : Hp) : Addr → Prop := fun a => H a ≠ none ∧ ∀ xs, H a ≠ some (.tup xs)
/-- a heap, without what stood before and is no tuple -/
noncomputable abbrev Nw (H H' : Hp) : Hp := Hd (Old H) H'
theorem Old.ke {H H1 : Hp} {a : Addr} (k : Ke H H1) (o : Old H a) : Old H1 a := by
  obtain ⟨h1, h2⟩ := o
  cases e : H a with
  | none => exact absurd e h1
  | some u =>
    refine ⟨by rw [k.at e]; simp, fun xs z => ?_⟩
    rw [k.at e] at z
    exact h2 xs (by rw [e]; exact z)
theorem Old.lst {H : Hp} {a : Addr} {xs : List V} (h : H a = some (.lst xs)) : Old H a := ⟨by rw [h]; simp, fun ys z => by rw [h] at z; cases z⟩
theorem Old.dT {H : Hp} {a : Addr} {xs : List (List Key × V)} (h : H a = some (.dT xs)) : Old H a := ⟨by rw [h]; simp, fun ys z => by rw [h] at z; cases z⟩
theorem Old.not {H : Hp} {a : Addr} (h : H a = none) : ¬ Old H a := fun z => z.1 h
theorem Nw.le {H H' : Hp} : Le (Nw H H') H' := Hd.le
/-- what is new later on is new -/
theorem Nw.later {H H1 H2 : Hp} (k : Ke H H1) : Le (Nw H1 H2) (Nw H H2) := Hd.anti fun _ o => o.ke k
theorem Nw.go {H H1 H2 : Hp} (k : Ke H1 H2) : Ke (Nw H H1) (Nw H H2) := Hd.ke k.ks
theorem Nw.new {H H' : Hp} {a : Addr} {o : HO} (h : H a = none) (h' : H' a = some o) : Nw H H' a = some o := Hd.get (Old.not h) h'
/-- what stands in the new part stands, if something old is changed -/
theorem Nw.mut {H H1 H2 : Hp} (h : ∀ a o, ¬ Old H a → H1 a = some o → H2 a = some o) : Le (Nw H H1) (Nw H H2) := fun a o e => by
  obtain ⟨n, e⟩ := Hd.at e
  exact Hd.get n (h a o n e)
theorem Nw.get {H H' : Hp} {a : Addr} {xs : List V} (h : H a = some (.tup xs)) (h' : H' a = some (.tup xs)) : Nw H H' a = some (.tup xs) := Hd.get (fun z => z.2 xs h) h'
/-- tuples are never hidden -/
theorem Nw.tx {H H' : Hp} (k : Ke H H') : Tx H' (Nw H H') := ⟨fun a xs h => Hd.get (fun o => by
  obtain ⟨h1, h2⟩ := o
  cases e : H a with
  | none => exact h1 e
  | some u =>
    have := k.at e
    rw [h] at this
    exact h2 xs (by rw [e]; exact this.symm)) h⟩
theorem yesT {σ : L2.St} {H : Hp} {A B : Hp → Prop} (h : A H) : tYes σ H (fun b H3 => if b = true then A H3 else B H3) := by
  unfold tYes
  exact iteT' rfl h
theorem filter_take {α : Type} (p : α → Bool) {xs : List α} {i : Nat} {x : α} (e : xs[i]? = some x) : (xs.take (i + 1)).filter p = if p x = true then (xs.take i).filter p ++ [x] else (xs.take i).filter p := by
  rw [List.take_succ, e, List.filter_append]
  show _ ++ List.filter p [x] = _
  by_cases c : p x = true
  · simp [List.filter_cons, c]
  · simp [List.filter_cons, c]
/-- a list comprehension over a walk, with a test -/
theorem lc_W {J : It} {n : Nat} {G : Hp → Prop} {Y : Nat → Hp → V → Hp → Prop} {α β : Type} {R : Rl α} {R' : Rl β} (w : Walk J n G Y) (sR' : Sto R') (xs : List α) (p : α → Bool) (f : α → β) {g : TG} {tt : L2.TT} {te : TE} {ix : List Nat} {σ : L2.St} {H1 : Hp} {D : Addr} {Qd : Hp → Prop}
    (hn : H1 D = none) (hl : xs.length < sizeLine) (el : xs.length = n) (hG : ∀ H, Ke H1 H → G H) (hy : ∀ i H v H', Ke H1 H → Y i H v H' → H' = H ∧ ∃ x, xs[i]? = some x ∧ R H v x)
    (hs : ∀ v x H, x ∈ xs → R H v x → Ke H1 H → H D ≠ none → ∀ (Z : V → Hp → Prop) (Z' : Hp → Prop), (p x = true → ∀ u H', Ke H H' → R' (Nw H H') u (f x) → Z u H') → (p x = false → ∀ H', Ke H H' → Z' H') →
      g v (wipe σ ix) H fun σ2 H2 => wipe σ2 ix = wipe σ ix ∧ tt σ2 H2 fun b H3 => if b = true then te σ2 H3 Z else Z' H3)
    (hd : ∀ H, Ke H1 H → LL R' (Nw H1 H) (.ref D) ((xs.filter p).map f) → Qd H) :
    ∃ W : Nat → Nat → Hp → Prop, (∃ m, W 0 m (upd H1 D (.lst []))) ∧ ∀ i m H, W i m H →
      (J.stop i H ∧ Qd H) ∨ (J.go i H ∧ ∃ Nx : Hp → Prop, (∀ H', Nx H' → ∃ m', m' < m ∧ W (i + 1) m' H') ∧ ∀ x H', J.yld i H x H' → g x (wipe σ ix) H' fun σ2 H2 => wipe σ2 ix = wipe σ ix ∧ tt σ2 H2 fun b H3 =>
        if b = true then te σ2 H3 fun y H4 => ∃ acc, H4 D = some (.lst acc) ∧ acc.length < sizeLine ∧ Nx (upd H4 D (.lst (acc ++ [y]))) else Nx H3) := by
  refine lc_it w (fun i H => Ke H1 H ∧ ∃ ws, H D = some (.lst ws) ∧ Paired (R' (Hd (fun a => Old H1 a ∨ a = D) H)) ws (((xs.take i).filter p).map f)) ⟨Ke.new hn, [], upd_same, .nil⟩ (fun i H _ q => hG H q.1) (fun i v H H' hi q y => ?_) fun H q => ?_
  · obtain ⟨k, ws, hD, pw⟩ := q
    obtain ⟨rfl, x, e, r⟩ := hy i H v H' k y
    have lw : ws.length ≤ i := by
      rw [plen pw, List.length_map]
      exact Nat.le_trans (List.length_filter_le _ _) (by rw [List.length_take]; omega)
    refine hs v x H' (List.mem_of_getElem? e) r k (by rw [hD]; simp) _ _ (fun px u H4 k4 ru => ?_) fun px H4 k4 => ?_
    · refine ⟨ws, k4.at hD, by omega, (k.trans k4).mutNew hn, ws ++ [u], upd_same, ?_⟩
      rw [filter_take p e, if_pos px, List.map_append]
      have up : ∀ {Hx : Hp}, Le (Hd (fun a => Old H1 a ∨ a = D) Hx) (Hd (fun a => Old H1 a ∨ a = D) (upd Hx D (.lst (ws ++ [u])))) := fun a o z => by
        obtain ⟨n1, z⟩ := Hd.at z
        exact Hd.get n1 (by rw [upd_ne (fun q => n1 (.inr q))]; exact z)
      refine papp (pimp (fun v x r => sR' _ _ v x ((Hd.ke k4.ks).trans (Le.ke up)) r) pw) (.cons (sR' _ _ _ _ (Le.ke fun a o z => ?_) ru) .nil)
      refine up a o (Hd.anti (fun b hb => ?_) a o z)
      rcases hb with hb | hb
      · exact hb.ke k
      · rw [hb]; exact .lst hD
    · refine ⟨k.trans k4, ws, k4.at hD, ?_⟩
      rw [filter_take p e, if_neg (by rw [px]; simp)]
      exact pimp (fun v x r => sR' _ _ v x (Hd.ke k4.ks) r) pw
  · obtain ⟨k, ws, hD, pw⟩ := q
    rw [← el, List.take_length] at pw
    exact hd H k ⟨D, ws, rfl, Nw.new hn hD, pimp (fun v x r => sR' _ _ v x (Le.ke (Hd.anti fun a z => .inl z)) r) pw⟩
end Fd
set_option Elab.async false
set_option linter.all false
set_option maxRecDepth 100000
set_option maxHeartbeats 4000000
namespace Fd
open PySem PySem.Spec PyProof.Rows L2 RZ
/-! ### the twins of an office -/
abbrev ST : Rl (List Int × Int) := PP TI II
abbrev BRow : Rl (List (List (List Int × Int))) := LL (LL ST)
abbrev BMr : Rl (List (List (List (List Int × Int)))) := LL BRow
theorem ST.stb : Stb ST := PP.stb TI.stb II.stb
theorem BRow.sto : Sto BRow := LL.sto (LL.sto ST.stb.sto)
theorem BMr.sto : Sto BMr := LL.sto BRow.sto
/-- the steps of a row by their marks -/
def bmRow (rk : List (List Int)) (f : List Int → Int) (m : Nat) : List (List (List Int × Int)) := (List.range m).map fun (k : Nat) => (rk.filter fun st => mk3 st = (k : Int)).map fun st => (st, f st)
def sp_sbm : Sp := fun xs H Q _ => ∃ (d : Addr) (kvs : List (List Key × V)) (rk : List (List Int)) (f : List Int → Int) (m : Nat), xs = [.ref d, .int m] ∧ H d = some (.dT kvs) ∧ kvs.map (·.1) = rk.map keyI ∧
  (∀ st ∈ rk, st.length = 3 ∧ 0 ≤ mk3 st ∧ mk3 st < m ∧ valV kvs (keyI st) = some (.int (f st))) ∧ rk.length ≤ 300000 ∧ m ≤ 100 ∧ ∀ v' H', Ke H H' → BRow (Nw H H') v' (bmRow (sortT rk) f m) → Q v' H'
theorem paired_of {α β : Type} {F : α → β → Prop} : ∀ {l : List α} {m : List β}, l.length = m.length → (∀ (i : Nat) x y, l[i]? = some x → m[i]? = some y → F x y) → Paired F l m
  | [], [], _, _ => .nil
  | [], _ :: _, h, _ => by cases h
  | _ :: _, [], h, _ => by cases h
  | x :: l, y :: m, h, f => .cons (f 0 x y rfl rfl) (paired_of (by simpa using h) fun i a b h1 h2 => f (i + 1) a b h1 h2)
section
variable {P : Program} {w : World} {K : PySem.W.Frag} {mg : Str → Option Value} {base : Heap} (T : Txt K mg)
include T
theorem ok_sorted_by_marks : FnOk P w K mg base CX0 1 T.a_sorted_by_marks T.d_sorted_by_marks P_sorted_by_marks sp_sbm := by
  refine T.F_sorted_by_marks.ok sc_sorted_by_marks (fun vs H Q E h => ?_) (fun cdv A outer s H vs Q E hr h => ?_)
  · obtain ⟨d, kvs, rk, f, m, rfl, _⟩ := h; rfl
  · obtain ⟨d, kvs, rk, f, m, rfl, hd, ek, hst, lrk, lm, k⟩ := h
    have hu := hu_of hr
    refine ⟨_, (pss_cons (ps_setLc (i := 2) (own := [("mark", 4)]) rfl sc_sorted_by_marks.nd rfl rfl (sw_true rfl rfl rfl (by decide +kernel)) (pi_range1 rfl T.n_range (pa_cons (pv 1) pa_nil)) (blkOk_by (own := [("mark", 4)]) (N := N_sorted_by_marks) (sc := defScope s_sorted_by_marks) (by decide +kernel)) (fun _ _ _ _ _ => (pg_name (i := 4) sc_sorted_by_marks.nd rfl (Or.inl rfl))) (fun _ _ _ _ _ => pts_nil) (fun _ _ _ _ _ => (pe_lst pa_nil)))
  (pss_cons (ps_for PassesOwn.never rfl (pi_list (pe_callB (cr_sortedDT rfl hr) (by rfl) T.n_sorted (by decide +kernel) (pa_cons (pv 0) pa_nil))) (pg_name (i := 3) sc_sorted_by_marks.nd rfl (Or.inl rfl)) (pss_one (ps_expr (pe_bm PySem.F.plainAttrs_list PySem.F.slot_list_append PySem.F.type_list_append mt_append (pe_ix ix_list (pv 2) (pe_ix ix_tup (pv 3) pe_int (fun _ _ => rfl)) (fun _ _ => rfl)) (pa_cons (pe_tup (pa_cons (pv 3) (pa_cons (pe_dget hu (pv 0) (pv 3) (fun _ _ => rfl)) pa_nil))) pa_nil)))))
  (pss_one (ps_ret (pv 2))))), ?_⟩
    refine ⟨_, rfl, m, rfl, by omega, by omega, fun D hD => lc_range (lo := 0) (n := m) (fun i H' => Ke H H' ∧ ∃ ls : List Addr, H' D = some (.lst (ls.map V.ref)) ∧ ls.length = i ∧ ls.Nodup ∧ D ∉ ls ∧ ∀ a ∈ ls, H a = none ∧ H' a = some (.lst [])) ⟨Ke.new hD, [], upd_same, rfl, .nil, (fun z => by cases z), fun a z => by cases z⟩ ?_ ?_⟩
    · rintro i H1 hi ⟨k1, ls, hD1, ll, nd, nD, hls⟩
      refine ⟨rfl, by decide, fun a ha => ?_⟩
      have na : a ≠ D := fun z => by rw [z, hD1] at ha; cases ha
      have nal : a ∉ ls := fun z => by have := (hls a z).2; rw [ha] at this; cases this
      have ha0 := k1.free ha
      refine ⟨ls.map V.ref, by rw [upd_ne na.symm]; exact hD1, by rw [List.length_map, sizeLine_eq]; omega, (k1.trans (Ke.new ha)).mutNew hD, ls ++ [a], by rw [List.map_append]; exact upd_same, by rw [List.length_append, ll]; rfl, L2.nd_snoc nd nal, fun z => ?_, fun b hb => ?_⟩
      · rcases List.mem_append.mp z with z | z
        · exact nD z
        · exact na (List.mem_singleton.mp z).symm
      · rcases List.mem_append.mp hb with z | z
        · have nb : b ≠ D := fun q => nD (by rw [← q]; exact z)
          have nba : b ≠ a := fun q => nal (by rw [← q]; exact z)
          exact ⟨(hls b z).1, by rw [upd_ne nb, upd_ne nba]; exact (hls b z).2⟩
        · rw [List.mem_singleton.mp z]
          exact ⟨ha0, by rw [upd_ne na]; exact upd_same⟩
    · rintro H1 ⟨k1, ls, hD1, ll, nd, nD, hls⟩
      refine stepN ?_
      dsimp only
      refine ⟨_, rfl, d, kvs, rk, rfl, .inl (k1.at hd), ek, (fun st hst' => by have := (hst st hst').1; intro z; rw [z] at this; cases this), fun q out hq pout => ?_⟩
      have nq : ∀ a ∈ ls, a ≠ q := fun a ha z => by have := (hls a ha).2; rw [z, hq] at this; cases this
      have nDq : D ≠ q := fun z => by rw [z, hq] at hD1; cases hD1
      have k2 : Ke H1 (upd H1 q (.lst out)) := Ke.new hq
      have hq2 : (upd H1 q (.lst out)) q = some (.lst out) := upd_same
      generalize upd H1 q (.lst out) = H2 at k2 hq2 ⊢
      have k02 := k1.trans k2
      have lns : ∀ a, a ∈ ls → H a = none := fun a ha => (hls a ha).1
      refine ⟨q, rfl, ⟨_, SqL.of hq2⟩, fo_L (R := TI H1) (fun dn σ H' => (∃ s3, σ = [some (.ref d), some (.int m), some (.ref D), s3, none]) ∧ Ks (fun a => a ∈ ls) H2 H' ∧
        ∀ (j : Nat) a, ls[j]? = some a → ∃ vs, H' a = some (.lst vs) ∧ Paired (ST H') vs ((dn.filter fun st => mk3 st = (j : Int)).map fun st => (st, f st))) pout ⟨⟨_, rfl⟩, .refl, fun j a ha => ⟨[], k2.at (hls a (List.mem_of_getElem? ha)).2, .nil⟩⟩
        (fun dn σ H' p => p.2.1.keep _ _ (fun z => nq q z rfl) hq2) ?_ ?_⟩
      · rintro dn st r v σ H3 e ⟨sa, rfl, hsa⟩ ⟨⟨s3, rfl⟩, k3, inv⟩
        have hin : st ∈ rk := mem_sortT.mp (by rw [e]; simp)
        obtain ⟨h3, m0, m1, ev⟩ := hst st hin
        obtain ⟨x, y, z, rfl⟩ : ∃ x y z, st = [x, y, z] := match st, h3 with | [x, y, z], _ => ⟨x, y, z, rfl⟩
        have ez : mk3 [x, y, z] = z := rfl
        rw [ez] at m0 m1
        obtain ⟨j, rfl⟩ : ∃ j : Nat, z = (j : Int) := ⟨z.toNat, by omega⟩
        obtain ⟨a, ha⟩ : ∃ a, ls[j]? = some a := ⟨_, List.getElem?_eq_getElem (by omega)⟩
        have ham := List.mem_of_getElem? ha
        obtain ⟨vs, hva, pvs⟩ := inv j a ha
        have hsa3 := k3.tup _ _ (k2.at hsa)
        have hD3 := k3.keep _ _ nD (k2.at hD1)
        have hd3 : H3 d = some (.dT kvs) := (Ke.then k02 k3 lns).at hd
        have lv : vs.length ≤ 300000 := by
          rw [plen pvs, List.length_map]
          refine Nat.le_trans (List.length_filter_le _ _) (Nat.le_trans ?_ lrk)
          rw [← len_sortT (bs := rk), e]; simp
        refine ⟨_, rfl, _, rfl, sa, _, 2, _, rfl, rfl, SqT.of hsa3, rfl, D, _, (j : Int), .ref a, rfl, rfl, SqL.of hD3, atI_nat (by rw [List.getElem?_map, ha]; rfl) rfl, .inl ⟨rfl, _, SqL.of hva⟩, _, rfl, _, rfl, _, rfl, d, _, rfl, (by rw [← ev]; exact DGet.t (k := keyI [x, y, (j : Int)]) hd3 (by rw [keyI_kV]; exact hsa3)), (by show 2 ≤ sizeLine; decide), fun t ht => ?_⟩
        have nat_ : a ≠ t := ne_of_none hva ht
        refine ⟨a, vs, .ref t, rfl, rfl, by rw [upd_ne nat_]; exact hva, by rw [sizeLine_eq]; omega, ⟨_, rfl⟩, (k3.trans (Ke.new ht).ks).mut ham (fun xs q => by rw [upd_ne nat_, hva] at q; cases q), fun j' a' ha' => ?_⟩
        have tx : Tx H3 (upd (upd H3 t (.tup [.ref sa, .int (f [x, y, (j : Int)])])) a (.lst (vs ++ [.ref t]))) := (Ke.new ht).tx.trans (snoc_tx .refl (by rw [upd_ne nat_]; exact hva))
        have hmk : (mk3 [x, y, (j : Int)] = (j' : Int)) ↔ j = j' := by
          show ((j : Int) = (j' : Int)) ↔ _
          omega
        rw [List.filter_append]
        by_cases ej : j = j'
        · subst ej
          rw [ha] at ha'; cases ha'
          refine ⟨_, upd_same, ?_⟩
          rw [List.filter_cons, if_pos (decide_eq_true (hmk.mpr rfl)), List.filter_nil, List.map_append]
          exact papp (pimp (fun v x r => ST.stb _ _ v x tx r) pvs) (.cons ⟨t, .ref sa, _, rfl, by rw [upd_ne nat_.symm]; exact upd_same, ⟨sa, rfl, tx.tup _ _ hsa3⟩, rfl⟩ .nil)
        · have naa : a' ≠ a := fun q => ej (by
            subst q
            exact (List.getElem?_inj (by omega) nd).mp (ha.trans ha'.symm))
          obtain ⟨vs', h', p'⟩ := inv j' a' ha'
          refine ⟨vs', by rw [upd_ne naa, upd_ne (ne_of_none h' ht)]; exact h', ?_⟩
          rw [List.filter_cons, if_neg (by simp [hmk, ej]), List.filter_nil, List.append_nil]
          exact pimp (fun v x r => ST.stb _ _ v x tx r) p'
      · rintro σ H3 ⟨⟨s3, rfl⟩, k3, inv⟩
        have kk := Ke.then k02 k3 lns
        have nw : ∀ {a o}, H a = none → H3 a = some o → Nw H H3 a = some o := fun h h' => Nw.new h h'
        refine ⟨_, rfl, k _ H3 kk ⟨D, ls.map V.ref, rfl, nw hD (k3.keep _ _ nD (k2.at hD1)), ?_⟩⟩
        refine paired_of (by rw [List.length_map, ll]; unfold bmRow; rw [List.length_map, List.length_range]) fun i u y h1 h2 => ?_
        rw [List.getElem?_map] at h1
        cases ea : ls[i]? with
        | none => rw [ea] at h1; cases h1
        | some a =>
          rw [ea] at h1
          have e1 := Option.some.inj h1
          subst e1
          obtain ⟨vs, h, p⟩ := inv i a ea
          have hi : i < m := by rw [← ll]; exact (List.getElem?_eq_some_iff.mp ea).1
          have e2 : y = ((sortT rk).filter fun st => mk3 st = (i : Int)).map fun st => (st, f st) := by
            unfold bmRow at h2
            rw [List.getElem?_map, List.getElem?_range hi] at h2
            exact (Option.some.inj h2).symm
          subst e2
          refine ⟨a, vs, rfl, nw (lns a (List.mem_of_getElem? ea)) h, ?_⟩
          exact pimp (fun v x r => ST.stb _ _ v x (Nw.tx kk) r) p
end
end Fd
set_option Elab.async false
set_option linter.all false
set_option maxRecDepth 100000
set_option maxHeartbeats 4000000
namespace Fd
open PySem PySem.Spec PyProof.Rows L2 RZ
/-- what by_mark holds of a set -/
def IsRow (o : Ofc) (ks : List (List Int)) (s : List Int) (row : List (List (List Int × Int))) : Prop := row.length = (o.sz.getD 2 0).toNat ∧ ∀ (j : Nat) l, row[j]? = some l → l.length ≤ (stepsOf o).length ∧
  ∀ x, x ∈ l ↔ x.1 ∈ stepsOf o ∧ mk3 x.1 = (j : Int) ∧ goalsM o s x.1 ≠ [] ∧ x.2 = (ks.idxOf (goalsM o s x.1) : Nat)
def BR (o : Ofc) (ks : List (List Int)) : Rl (List Int) := fun H v s => ∃ row, BRow H v row ∧ IsRow o ks s row
theorem BR.sto {o : Ofc} {ks : List (List Int)} : Sto (BR o ks) := fun H H' v s k ⟨row, h, r⟩ => ⟨row, BRow.sto _ _ _ _ k h, r⟩
theorem step_mk {o : Ofc} {st : List Int} (h : st ∈ stepsOf o) : st.length = 3 ∧ 0 ≤ mk3 st ∧ mk3 st < o.sz.getD 2 0 := by
  obtain ⟨x, hx, h⟩ := List.mem_flatMap.mp h
  obtain ⟨k, hk, rfl⟩ := List.mem_map.mp h
  obtain ⟨s, _, hx⟩ := List.mem_flatMap.mp hx
  obtain ⟨n, _, rfl⟩ := List.mem_map.mp hx
  exact ⟨rfl, mem_ran.mp hk⟩
theorem isRow_of {o : Ofc} {ks rk : List (List Int)} {s : List Int} (hn : rk.Nodup) (hm : ∀ st, st ∈ rk ↔ st ∈ stepsOf o ∧ goalsM o s st ≠ []) : IsRow o ks s (bmRow (sortT rk) (fun st => (ks.idxOf (goalsM o s st) : Nat)) (o.sz.getD 2 0).toNat) := by
  refine ⟨by unfold bmRow; rw [List.length_map, List.length_range], fun j l h => ?_⟩
  unfold bmRow at h
  rw [List.getElem?_map] at h
  cases e : (List.range (o.sz.getD 2 0).toNat)[j]? with
  | none => rw [e] at h; cases h
  | some i =>
    have ei : i = j := by
      obtain ⟨h1, h2⟩ := List.getElem?_eq_some_iff.mp e
      rw [List.getElem_range] at h2
      exact h2.symm
    subst ei
    rw [e] at h
    have h := Option.some.inj h
    subst h
    refine ⟨?_, fun x => ?_⟩
    · rw [List.length_map]
      refine Nat.le_trans (List.length_filter_le _ _) ?_
      rw [len_sortT]
      exact len_sub hn fun st h => ((hm st).mp h).1
    · rw [List.mem_map]
      constructor
      · rintro ⟨st, hst, rfl⟩
        obtain ⟨h1, h2⟩ := List.mem_filter.mp hst
        obtain ⟨h3, h4⟩ := (hm st).mp (mem_sortT.mp h1)
        exact ⟨h3, of_decide_eq_true h2, h4, rfl⟩
      · rintro ⟨h1, h2, h3, h4⟩
        exact ⟨x.1, List.mem_filter.mpr ⟨mem_sortT.mpr ((hm _).mpr ⟨h1, h3⟩), decide_eq_true h2⟩, Prod.ext rfl h4.symm⟩
structure TwC (K : PySem.W.Frag) (C : Addr) : Prop where
  c : Cls K C
  n1 : NoAttr K C "kept_reader"
  n2 : NoAttr K C "by_mark"
def twF (vr vb : V) : List (Str × V) := putF "by_mark" vb (putF "kept_reader" vr [])
theorem twF_r {vr vb : V} : (twF vr vb).lookup ("kept_reader" : Str) = some vr := by rfl
theorem twF_b {vr vb : V} : (twF vr vb).lookup ("by_mark" : Str) = some vb := by rfl
/-- twins stand at p -/
structure TwAt (CT CR : Addr) (H : Hp) (p : Addr) (o : Ofc) (ks : List (List Int)) : Prop where
  ex : ∃ dx r vb, H p = some (.ins CT dx (twF (.ref r) vb)) ∧ ReaderAt CR H r o ks ∧ LL (BR o ks) H vb ks
  ki : KsI o ks
  cl : Closed o ks ks.length
  lo : (stepsOf o).length ≤ 250 ∧ (o.sz.getD 2 0).toNat ≤ 63
  wf : Wf o
theorem TwAt.ke {CT CR : Addr} {H H' : Hp} {p : Addr} {o : Ofc} {ks : List (List Int)} (x : TwAt CT CR H p o ks) (k : Ke H H') : TwAt CT CR H' p o ks := by
  obtain ⟨dx, r, vb, h1, h2, h3⟩ := x.ex
  exact ⟨⟨dx, r, vb, k.at h1, h2.ke k, LL.sto BR.sto _ _ _ _ k h3⟩, x.ki, x.cl, x.lo, x.wf⟩
def sp_twins (K : PySem.W.Frag) (C CR : Addr) : Sp := fun xs H Q _ => ∃ p dx po o C1, xs = [.ref p, .ref po] ∧ H p = some (.ins C dx []) ∧ OC K C1 ∧ OfAt C1 H po o ∧ Wf o ∧ ¬ Over o ∧ (stepsOf o).length ≤ 250 ∧
  ∀ ks H', Ks (fun a => a = p) H H' → TwAt C CR H' p o ks → Q .non H'
section
variable {P : Program} {w : World} {K : PySem.W.Frag} {mg : Str → Option Value} {base : Heap} (T : Txt K mg) (Er : Err P K mg) (htop : (P.main.scope.names.lookup ("super" : Str)).isSome = false)
include T
theorem Txt.twc : TwC K T.a_Twins := ⟨T.c_Twins, T.f_Twins_kept_reader, T.f_Twins_by_mark⟩
include Er htop
theorem ok_Twins_init : FnOk P w K mg base CX0 7 T.a_Twins_init T.d_Twins_init P_Twins_init (sp_twins K T.a_Twins T.a_Reader) := by
  refine T.F_Twins_init.ok sc_Twins_init (fun vs H Q E h => ?_) (fun cdv A outer s H vs Q E hr h => ?_)
  · obtain ⟨p, dx, po, o, C1, rfl, _⟩ := h; rfl
  · obtain ⟨p, dx, po, o, C1, rfl, hp, oc, of, wf, no, lo, k⟩ := h
    have hu := hu_of hr
    have rc := T.rc
    have tc := T.twc
    obtain ⟨a, b, c, ez, ha, hb, hc⟩ := wf.sz
    have ofd := of.off hp
    refine ⟨_, (pss_cons (ps_fld (pv 0) (pe_make T.m_Reader (ok_Reader_init T Er htop) (hr.mono (by decide)) rfl T.g_Reader T.b_Reader_init .nil passL (pa_cons (pv 1) pa_nil)) rfl)
  (pss_one (ps_fld (pv 0) (pe_lc (own := [("row", 2)]) rfl sc_Twins_init.nd (pi_list (pe_fld (pe_fld (pv 0) rfl) rfl)) (blkOk_by (own := [("row", 2)]) (N := N_Twins_init) (sc := defScope s_Twins_init) (by decide +kernel)) (fun _ _ _ _ _ => (pg_name (i := 2) sc_Twins_init.nd rfl (Or.inl rfl))) (fun _ _ _ _ _ => pts_nil) (fun _ _ _ _ _ => (pe_call (ok_sorted_by_marks T) (hr.mono (by decide)) rfl T.g_sorted_by_marks T.k_sorted_by_marks T.b_sorted_by_marks .nil pass0 (pa_cons (pv 2) (pa_cons (pe_ix (ix_tupK K rfl) (pe_fldK K rfl (pv 1) rfl) pe_int (fun _ _ => rfl)) pa_nil))))) rfl))), ?_⟩
    refine ⟨_, rfl, nilA fun x dx1 hx hdx ndx => ?_⟩
    have kA : Ke H (upd (upd H dx1 (.own x)) x (.ins T.a_Reader dx1 [])) := (Ke.new hdx).trans (Ke.new (by rw [upd_ne ndx.symm]; exact hx))
    have hxA : (upd (upd H dx1 (.own x)) x (.ins T.a_Reader dx1 [])) x = some (.ins T.a_Reader dx1 []) := upd_same
    generalize upd (upd H dx1 (.own x)) x (.ins T.a_Reader dx1 []) = HA at kA hxA ⊢
    refine ⟨x, dx1, po, o, C1, rfl, hxA, oc, of.ke kA, wf, fun ov => absurd ov no, fun ks H2 ki cl k2 ra => ⟨rfl, ?_⟩⟩
    have k02 : Ke H H2 := Ks.comp kA.ks k2 (fun _ z => z) (fun y z => .inr (by rw [z]; exact hx))
    have hp2 := k02.at hp
    refine ⟨_, rfl, p, T.a_Twins, dx, [], rfl, hp2, tc.c, tc.n1, by decide, ?_⟩
    have ra2 := ra.off hp2
    have kp : Ks (fun a => a = p) H2 (upd H2 p (.ins T.a_Twins dx (putF "kept_reader" (.ref x) []))) := Ks.mut .refl rfl (fun ys z => by rw [hp2] at z; cases z)
    have hp3 : (upd H2 p (.ins T.a_Twins dx (putF "kept_reader" (.ref x) []))) p = some (.ins T.a_Twins dx (putF "kept_reader" (.ref x) [])) := upd_same
    generalize upd H2 p (.ins T.a_Twins dx (putF "kept_reader" (.ref x) [])) = H3 at kp hp3 ⊢
    have k03 : Ks (fun a => a = p) H H3 := k02.ks.trans kp
    have ra3 := ra2.ke (Hd.ke kp)
    have of3 : OffAt C1 H3 po o.sz o.mv o.cl := (ofd.ke (Hd.ke k03)).ke (Le.ke Hd.le)
    obtain ⟨dxr, tl, sl, kl, tws, sws, kws, hr3, ⟨ht3, pt3⟩, _⟩ := (ra3.ke (Le.ke Hd.le)).ex
    obtain ⟨dxo, vs, vm, vc, lk, ds, hpo, ⟨zs, rfl, hz⟩, _⟩ := of3.ex
    obtain ⟨cn, rfl⟩ : ∃ n : Nat, c = (n : Int) := ⟨c.toNat, by omega⟩
    rw [ez] at hz
    have em : (o.sz.getD 2 0).toNat = cn := by rw [ez]; rfl
    refine ⟨_, rfl, p, T.a_Twins, dx, _, _, rfl, hp3, tc.c, tc.n1, rfl, x, T.a_Reader, dxr, _, _, rfl, hr3, rc.c, rc.n1, rdF_t _ _ _, tl, rfl, ⟨_, SqL.of ht3⟩, fun D hD => lc_W (R := RowAt o ks (stepsOf o)) walk_list (BR.sto (o := o) (ks := ks)) ks (fun _ => true) id hD (by have := ki.le; rw [sizeLine_eq]; omega) (plen pt3).symm (fun H4 k4 => SqL.of (k4.at ht3)) (fun i H4 v H5 k4 y => ?_) ?_ ?_⟩
    · obtain ⟨rfl, e⟩ := y
      obtain ⟨s', e2, r⟩ := pgetL pt3 e
      exact ⟨rfl, s', e2, RowAt.sto _ _ _ _ k4 r⟩
    · rintro v s' H4 hs' ⟨d, kvs, rk, rfl, hd, ek, hn, hm, hv⟩ k4 nD Z Z' z z'
      refine ⟨rfl, yesT ?_⟩
      refine ⟨_, rfl, _, rfl, po, C1, dxo, _, _, rfl, k4.at hpo, oc.c, oc.n1, offF_s _ _ _ _, zs, _, 2, _, rfl, rfl, SqT.of (k4.at hz), rfl, ?_⟩
      refine nilA ⟨d, kvs, rk, fun st => (ks.idxOf (goalsM o s' st) : Nat), cn, rfl, hd, ek, fun st hst => ?_, ?_, by omega, fun v' H5 k5 hb => z rfl v' H5 k5 ⟨_, hb, ?_⟩⟩
      · obtain ⟨h1, h2, h3⟩ := step_mk ((hm st).mp hst).1
        rw [ez] at h3
        exact ⟨h1, h2, h3, by rw [hv, if_pos hst]⟩
      · have := len_sub hn fun st h => ((hm st).mp h).1
        omega
      · rw [← em]; exact isRow_of hn hm
    · intro H4 k4 hl
      rw [List.map_id, List.filter_eq_self.mpr (fun _ _ => rfl)] at hl
      have hp4 := k4.at hp3
      refine ⟨_, rfl, p, T.a_Twins, dx, _, rfl, hp4, tc.c, tc.n2, (by show 1 < 1000; decide), ?_⟩
      have kq : Ks (fun a => a = p) H4 (upd H4 p (.ins T.a_Twins dx (putF "by_mark" (.ref D) (putF "kept_reader" (.ref x) [])))) := Ks.mut .refl rfl (fun ys z => by rw [hp4] at z; cases z)
      refine k ks _ ((k03.trans k4.ks).trans kq) ⟨⟨dx, x, .ref D, upd_same, ((ra3.ke (Hd.ke k4.ks)).ke (Hd.ke kq)).ke (Le.ke Hd.le), LL.sto BR.sto _ _ _ _ (Le.ke fun a u e => ?_) hl⟩, ki, cl, ⟨lo, by rw [em]; omega⟩, wf⟩
      obtain ⟨n, e⟩ := Hd.at e
      rw [upd_ne (fun z => n (by rw [z]; exact ⟨by rw [hp3]; simp, fun xs q => by rw [hp3] at q; cases q⟩))]
      exact e
end
end Fd
set_option Elab.async false
set_option linter.all false
set_option maxRecDepth 100000
set_option maxHeartbeats 4000000
namespace Fd
open PySem PySem.Spec PyProof.Rows L2 RZ
/-- a tuple of a pair and two steps -/
abbrev Tri := List Int × List Int × List Int
def TR3 : Rl Tri := fun H v t => ∃ a u w x, v = .ref a ∧ H a = some (.tup [u, w, x]) ∧ TI H u t.1 ∧ TI H w t.2.1 ∧ TI H x t.2.2
theorem TR3.stb : Stb TR3 := fun H H' v t k ⟨a, u, w, x, e, h, h1, h2, h3⟩ => ⟨a, u, w, x, e, k.tup _ _ h, TI.stb _ _ _ _ k h1, TI.stb _ _ _ _ k h2, TI.stb _ _ _ _ k h3⟩
/-- what the ways of two rows with one mark are -/
def prodM (a b : List (List Int × Int)) : List Tri := a.flatMap fun x => b.map fun y => ([x.2, y.2], x.1, y.1)
def likeL (ra rb : List (List (List Int × Int))) : List Tri := (ra.zip rb).flatMap fun p => prodM p.1 p.2
def lastsN (o : Ofc) (ks : List (List Int)) (i : Int) : List Int := if i = -1 then [] else lastsM o (ks.getD i.toNat [])
/-- steps with one mark lead on from two sets -/
def LikeN (o : Ofc) (ks : List (List Int)) (si sj : List Int) (t : Tri) : Prop := t.2.1 ∈ stepsOf o ∧ t.2.2 ∈ stepsOf o ∧ mk3 t.2.1 = mk3 t.2.2 ∧ goalsM o si t.2.1 ≠ [] ∧ goalsM o sj t.2.2 ≠ [] ∧ t.1 = [((ks.idxOf (goalsM o si t.2.1) : Nat) : Int), ((ks.idxOf (goalsM o sj t.2.2) : Nat) : Int)]
theorem mem_prodM {a b : List (List Int × Int)} {t : Tri} : t ∈ prodM a b ↔ ∃ x ∈ a, ∃ y ∈ b, t = ([x.2, y.2], x.1, y.1) := by
  unfold prodM
  rw [List.mem_flatMap]
  constructor
  · rintro ⟨x, hx, h⟩
    obtain ⟨y, hy, rfl⟩ := List.mem_map.mp h
    exact ⟨x, hx, y, hy, rfl⟩
  · rintro ⟨x, hx, y, hy, rfl⟩
    exact ⟨x, hx, List.mem_map.mpr ⟨y, hy, rfl⟩⟩
theorem mem_likeL {o : Ofc} {ks : List (List Int)} {si sj : List Int} {ra rb : List (List (List Int × Int))} (ha : IsRow o ks si ra) (hb : IsRow o ks sj rb) (t : Tri) : t ∈ likeL ra rb ↔ LikeN o ks si sj t := by
  obtain ⟨la, ha⟩ := ha
  obtain ⟨lb, hb⟩ := hb
  unfold likeL
  rw [List.mem_flatMap]
  constructor
  · rintro ⟨p, hp, h⟩
    obtain ⟨j, hj⟩ := List.mem_iff_getElem?.mp hp
    obtain ⟨h1, h2⟩ := List.getElem?_zip_eq_some.mp hj
    obtain ⟨x, hx, y, hy, rfl⟩ := mem_prodM.mp h
    obtain ⟨a1, a2, a3, a4⟩ := ((ha j _ h1).2 x).mp hx
    obtain ⟨b1, b2, b3, b4⟩ := ((hb j _ h2).2 y).mp hy
    refine ⟨a1, b1, by rw [a2, b2], a3, b3, ?_⟩
    show [x.2, y.2] = _
    rw [a4, b4]
  · rintro ⟨h1, h2, h3, h4, h5, h6⟩
    obtain ⟨_, m0, m1⟩ := step_mk h1
    obtain ⟨j, hj⟩ : ∃ j : Nat, mk3 t.2.1 = (j : Int) := ⟨(mk3 t.2.1).toNat, by omega⟩
    have hlt : j < (o.sz.getD 2 0).toNat := by omega
    obtain ⟨a, ea⟩ : ∃ a, ra[j]? = some a := ⟨_, List.getElem?_eq_getElem (by omega)⟩
    obtain ⟨b, eb⟩ : ∃ b, rb[j]? = some b := ⟨_, List.getElem?_eq_getElem (by omega)⟩
    refine ⟨(a, b), List.mem_iff_getElem?.mpr ⟨j, List.getElem?_zip_eq_some.mpr ⟨ea, eb⟩⟩, mem_prodM.mpr ⟨(t.2.1, ((ks.idxOf (goalsM o si t.2.1) : Nat) : Int)), ((ha j a ea).2 _).mpr ⟨h1, hj, h4, rfl⟩, (t.2.2, ((ks.idxOf (goalsM o sj t.2.2) : Nat) : Int)), ((hb j b eb).2 _).mpr ⟨h2, by rw [← h3]; exact hj, h5, rfl⟩, ?_⟩⟩
    exact Prod.ext h6 rfl
theorem len_prodM (a b : List (List Int × Int)) : (prodM a b).length = a.length * b.length := by
  unfold prodM
  induction a with
  | nil => simp
  | cons x a ih =>
    rw [List.flatMap_cons, List.length_append, ih, List.length_map, List.length_cons, Nat.succ_mul]; omega
theorem len_zip {n : Nat} : ∀ {ra rb : List (List (List Int × Int))}, (∀ a ∈ ra, a.length ≤ n) → (∀ b ∈ rb, b.length ≤ n) → (likeL ra rb).length ≤ ra.length * (n * n)
  | [], _, _, _ => by simp [likeL]
  | _ :: _, [], _, _ => by simp [likeL]
  | a :: ra, b :: rb, h, g => by
    have ih := len_zip (ra := ra) (rb := rb) (fun x hx => h x (by simp [hx])) (fun x hx => g x (by simp [hx]))
    have h1 := h a (by simp)
    have h2 := g b (by simp)
    unfold likeL at ih ⊢
    rw [List.zip_cons_cons, List.flatMap_cons, List.length_append, len_prodM, List.length_cons, Nat.succ_mul]
    have := Nat.mul_le_mul h1 h2
    show a.length * b.length + _ ≤ _
    omega
theorem IsRow.short {o : Ofc} {ks : List (List Int)} {s : List Int} {r : List (List (List Int × Int))} (h : IsRow o ks s r) (lo : (stepsOf o).length ≤ 250) : ∀ a ∈ r, a.length ≤ 250 := fun a ha => by
  obtain ⟨j, hj⟩ := List.mem_iff_getElem?.mp ha
  exact Nat.le_trans (h.2 j a hj).1 lo
theorem len_likeL {o : Ofc} {ks : List (List Int)} {si sj : List Int} {ra rb : List (List (List Int × Int))} (ha : IsRow o ks si ra) (hb : IsRow o ks sj rb) (lo : (stepsOf o).length ≤ 250) (lm : (o.sz.getD 2 0).toNat ≤ 63) : (likeL ra rb).length ≤ 3937500 := by
  have h := len_zip (ha.short lo) (hb.short lo)
  have e := ha.1
  rw [e] at h
  omega
theorem zip_take' {α β : Type} : ∀ (l : List α) (m : List β) (n : Nat), (l.take n).zip (m.take n) = (l.zip m).take n
  | [], _, _ => by simp
  | _ :: _, [], _ => by simp
  | _ :: _, _ :: _, 0 => rfl
  | x :: l, y :: m, n + 1 => by
    rw [List.take_succ_cons, List.take_succ_cons, List.zip_cons_cons, List.zip_cons_cons, List.take_succ_cons, zip_take' l m n]
theorem likeL_take (ra rb : List (List (List Int × Int))) {i : Nat} {a b : List (List Int × Int)} (ha : ra[i]? = some a) (hb : rb[i]? = some b) : likeL (ra.take (i + 1)) (rb.take (i + 1)) = likeL (ra.take i) (rb.take i) ++ prodM a b := by
  unfold likeL
  rw [zip_take', zip_take', List.take_succ, (List.getElem?_zip_eq_some.mpr ⟨ha, hb⟩ : (ra.zip rb)[i]? = some (a, b)), List.flatMap_append]
  simp
theorem flat_take_len {α β : Type} (f : α → List β) (l : List α) (n : Nat) : ((l.take n).flatMap f).length ≤ (l.flatMap f).length := by
  have h : (l.flatMap f) = (l.take n).flatMap f ++ (l.drop n).flatMap f := by rw [← List.flatMap_append, List.take_append_drop]
  rw [h, List.length_append]; omega
def sp_goal (C CR : Addr) : Sp := fun xs H Q _ => ∃ p o ks i v st, xs = [.ref p, .int i, v] ∧ TwAt C CR H p o ks ∧ NumOk ks i ∧ TI H v st ∧ Q (.int (behindM o ks i st)) H
def sp_lasts (C CR : Addr) : Sp := fun xs H Q _ => ∃ p o ks i, xs = [.ref p, .int i] ∧ TwAt C CR H p o ks ∧ NumOk ks i ∧ ∀ v' H', Ke H H' → TI H' v' (lastsN o ks i) → Q v' H'
def sp_like (C CR : Addr) : Sp := fun xs H Q _ => ∃ p o ks u si sj, ∃ i j : Nat, xs = [.ref p, u] ∧ TwAt C CR H p o ks ∧ TI H u [(i : Int), (j : Int)] ∧ ks[i]? = some si ∧ ks[j]? = some sj ∧
  ∀ v' H' L, Ke H H' → LL TR3 (Nw H H') v' L → (∀ t, t ∈ L ↔ LikeN o ks si sj t) → L.length ≤ 4000000 → Q v' H'
section
variable {P : Program} {w : World} {K : PySem.W.Frag} {mg : Str → Option Value} {base : Heap} (T : Txt K mg)
include T
theorem ok_Twins_goal : FnOk P w K mg base CX0 2 T.a_Twins_goal T.d_Twins_goal P_Twins_goal (sp_goal T.a_Twins T.a_Reader) := by
  refine T.F_Twins_goal.ok sc_Twins_goal (fun vs H Q E h => ?_) (fun cdv A outer s H vs Q E hr h => ?_)
  · obtain ⟨p, o, ks, i, v, st, rfl, _⟩ := h; rfl
  · obtain ⟨p, o, ks, i, v, st, rfl, tw, ni, hv, k⟩ := h
    have tc := T.twc
    obtain ⟨dx, r, vb, hp, ra, hb⟩ := tw.ex
    have ra' := ra
    obtain ⟨dxr, tl, sl, kl, tws, sws, kws, hr3, _⟩ := ra'.ex
    refine ⟨_, (pss_one (ps_ret (pe_meth (pe_fld (pv 0) rfl) T.c_Reader T.t_Reader_behind (ok_Reader_behind T) (hr.mono (by decide)) T.b_Reader_behind .nil pass0 (pa_cons (pv 1) (pa_cons (pv 2) pa_nil))))), ?_⟩
    exact ⟨_, rfl, p, _, dx, _, _, rfl, hp, tc.c, tc.n1, twF_r, r, dxr, _, rfl, hr3, rdF_no _ _ _ (by decide +kernel) (by decide +kernel) (by decide +kernel), _, rfl, _, rfl, r, o, ks, i, v, st, rfl, ra, ni, hv, k⟩
theorem ok_Twins_lasts : FnOk P w K mg base CX0 1 T.a_Twins_lasts T.d_Twins_lasts P_Twins_lasts (sp_lasts T.a_Twins T.a_Reader) := by
  refine T.F_Twins_lasts.ok sc_Twins_lasts (fun vs H Q E h => ?_) (fun cdv A outer s H vs Q E hr h => ?_)
  · obtain ⟨p, o, ks, i, rfl, _⟩ := h; rfl
  · obtain ⟨p, o, ks, i, rfl, tw, ni, k⟩ := h
    have tc := T.twc
    have rc := T.rc
    obtain ⟨dx, r, vb, hp, ra, hb⟩ := tw.ex
    obtain ⟨dxr, tl, sl, kl, tws, sws, kws, hr3, _, ⟨hs, ps⟩, _⟩ := ra.ex
    refine ⟨_, (pss_one (ps_ret (pe_ifExp (pt_cmpR op_eq (pv 1) (pe_glob (v := .int (-1)) rfl T.g_DEAD ⟨_, rfl⟩) (nomark _)) (pe_tup pa_nil) (pe_ix ix_list (pe_fld (pe_fld (pv 0) rfl) rfl) (pv 1) (fun _ _ => rfl))))), ?_⟩
    refine ⟨_, rfl, rfl, _, rfl, ?_⟩
    by_cases c : i = -1
    · refine ifT (by rw [c]) ⟨by decide, fun e he => k _ _ (Ke.new he) ⟨e, rfl, ?_⟩⟩
      unfold lastsN
      rw [if_pos c]
      exact upd_same
    · refine ifF (fun z => c (by injection z)) ?_
      have hi : 0 ≤ i ∧ i < ks.length := ni.elim (fun z => absurd z c) id
      obtain ⟨s', hs'⟩ : ∃ s, ks[i.toNat]? = some s := ⟨_, List.getElem?_eq_getElem (by omega)⟩
      obtain ⟨rv, hrv, tv⟩ := pget ps (i := i.toNat) (y := lastsM o s') (by rw [List.getElem?_map, hs']; rfl)
      refine ⟨_, rfl, p, _, dx, _, _, rfl, hp, tc.c, tc.n1, twF_r, r, _, dxr, _, _, rfl, hr3, rc.c, rc.n2, rdF_s _ _ _, _, rfl, sl, sws, i, rv, rfl, rfl, SqL.of hs, atI_nat hrv (by omega), k _ _ .refl ?_⟩
      unfold lastsN
      rw [if_neg c, List.getD_eq_getElem?_getD, hs']
      exact tv
theorem ok_Twins_like_marks : FnOk P w K mg base CX0 1 T.a_Twins_like_marks T.d_Twins_like_marks P_Twins_like_marks (sp_like T.a_Twins T.a_Reader) := by
  refine T.F_Twins_like_marks.ok sc_Twins_like_marks (fun vs H Q E h => ?_) (fun cdv A outer s H vs Q E hr h => ?_)
  · obtain ⟨p, o, ks, u, si, sj, i, j, rfl, _⟩ := h; rfl
  · obtain ⟨p, o, ks, u, si, sj, i, j, rfl, tw, ⟨ua, rfl, hu0⟩, hi, hj, k⟩ := h
    have tc := T.twc
    obtain ⟨dx, r, vb, hp, ra, ⟨bl, bws, rfl, hbl, pb⟩⟩ := tw.ex
    obtain ⟨va, hva, rowA, ⟨la, was, rfl, hla, pa⟩, irA⟩ := pget pb hi
    obtain ⟨vb, hvb, rowB, ⟨lb, wbs, rfl, hlb, pb'⟩, irB⟩ := pget pb hj
    have lL := len_likeL irA irB tw.lo.1 tw.lo.2
    have ela := plen pa
    have elb := plen pb'
    have l1 := irA.1
    have l2 := irB.1
    refine ⟨_, (pss_cons (ps_asg (pv 1) (pg_tup rfl (pgs_cons (pg_name (i := 2) sc_Twins_like_marks.nd rfl (Or.inl rfl)) (pgs_cons (pg_name (i := 3) sc_Twins_like_marks.nd rfl (Or.inl rfl)) pgs_nil))))
  (pss_cons (ps_set (i := 4) sc_Twins_like_marks.nd rfl (Or.inl rfl) (pe_lst pa_nil))
  (pss_cons (ps_for PassesOwn.never rfl (pi_zipA rfl T.n_zip (pa_cons (pe_ix ix_list (pe_fld (pv 0) rfl) (pv 2) (fun _ _ => rfl)) (pa_cons (pe_ix ix_list (pe_fld (pv 0) rfl) (pv 3) (fun _ _ => rfl)) pa_nil))) (pg_tup rfl (pgs_cons (pg_name (i := 5) sc_Twins_like_marks.nd rfl (Or.inl rfl)) (pgs_cons (pg_name (i := 6) sc_Twins_like_marks.nd rfl (Or.inl rfl)) pgs_nil))) (pss_one (ps_for PassesOwn.never rfl (pi_list (pv 5)) (pg_tup rfl (pgs_cons (pg_name (i := 7) sc_Twins_like_marks.nd rfl (Or.inl rfl)) (pgs_cons (pg_name (i := 8) sc_Twins_like_marks.nd rfl (Or.inl rfl)) pgs_nil))) (pss_one (ps_for PassesOwn.never rfl (pi_list (pv 6)) (pg_tup rfl (pgs_cons (pg_name (i := 9) sc_Twins_like_marks.nd rfl (Or.inl rfl)) (pgs_cons (pg_name (i := 10) sc_Twins_like_marks.nd rfl (Or.inl rfl)) pgs_nil))) (pss_one (ps_expr (pe_bm PySem.F.plainAttrs_list PySem.F.slot_list_append PySem.F.type_list_append mt_append (pv 4) (pa_cons (pe_tup (pa_cons (pe_tup (pa_cons (pv 8) (pa_cons (pv 10) pa_nil))) (pa_cons (pv 7) (pa_cons (pv 9) pa_nil)))) pa_nil)))))))))
  (pss_one (ps_ret (pv 4)))))), ?_⟩
    refine ⟨_, rfl, ua, _, rfl, SqT.of hu0, rfl, _, _, rfl, _, _, rfl, rfl, ?_⟩
    refine ⟨by decide, fun f hf => ?_⟩
    have k0 : Ke H (upd H f (.lst [])) := Ke.new hf
    have hf0 : (upd H f (.lst [])) f = some (.lst []) := upd_same
    generalize upd H f (.lst []) = H0 at k0 hf0 ⊢
    refine ⟨_, rfl, p, _, dx, _, _, rfl, k0.at hp, tc.c, tc.n2, twF_b, _, rfl, bl, bws, (i : Int), .ref la, rfl, rfl, SqL.of (k0.at hbl), atI_nat hva rfl, _, rfl, p, _, dx, _, _, rfl, k0.at hp, tc.c, tc.n2, twF_b, _, rfl, bl, bws, (j : Int), .ref lb, rfl, rfl, SqL.of (k0.at hbl), atI_nat hvb rfl, ?_⟩
    have nf : ∀ {a : Addr} {o : HO}, H a = some o → a ≠ f := fun h => ne_of_none h hf
    refine ⟨la, lb, was, wbs, rfl, .inl ⟨SqL.of (k0.at hla), SqL.of (k0.at hlb), for_it (walk_zip (n := was.length) (by rw [ela, elb, l1, l2]; simp)) (fun n σ H' => (∃ s5 s6 s7 s8 s9 s10, σ = [some (.ref p), some (.ref ua), some (.int i), some (.int j), some (.ref f), s5, s6, s7, s8, s9, s10]) ∧ Ks (fun a => a = f) H0 H' ∧
      ∃ ws, H' f = some (.lst ws) ∧ Paired (TR3 H') ws (likeL (rowA.take n) (rowB.take n))) ⟨⟨_, _, _, _, _, _, rfl⟩, .refl, [], hf0, .nil⟩ (fun n σ H' _ q => ⟨SqL.of (q.2.1.keep _ _ (nf hla) (k0.at hla)), SqL.of (q.2.1.keep _ _ (nf hlb) (k0.at hlb))⟩) ?_ ?_⟩⟩
    · rintro n x σ H1 H2 hlt ⟨⟨s5, s6, s7, s8, s9, s10, rfl⟩, k1, ws, hf1, pw⟩ ⟨t, x', y', rfl, ht, rfl, ea, eb⟩
      obtain ⟨a, ea', xa, avs, rfl, hxa, pav⟩ := pgetL pa ea
      obtain ⟨b, eb', ya, bvs, rfl, hya, pbv⟩ := pgetL pb' eb
      have kt : Ke H1 (upd H1 t (.tup [.ref xa, .ref ya])) := Ke.new ht
      have ht2 : (upd H1 t (.tup [.ref xa, .ref ya])) t = some (.tup [.ref xa, .ref ya]) := upd_same
      generalize upd H1 t (.tup [.ref xa, .ref ya]) = H2 at kt ht2 ⊢
      have k2 := k1.trans kt.ks
      have el := likeL_take rowA rowB ea' eb'
      have lall : (likeL (rowA.take n) (rowB.take n)).length + (prodM a b).length ≤ 3937500 := by
        refine Nat.le_trans ?_ lL
        rw [← List.length_append, ← el]
        unfold likeL
        rw [zip_take']
        exact flat_take_len _ _ _
      have txH : Tx H H2 := k0.tx.trans k2.tx
      refine ⟨t, _, rfl, SqT.of ht2, rfl, _, _, rfl, _, _, rfl, rfl, ?_⟩
      refine ⟨_, rfl, xa, rfl, ⟨_, SqL.of (k2.keep _ _ (nf hxa) (k0.at hxa))⟩, fo_L (R := ST H) (fun dn σ H' => (∃ s7 s8 s9 s10, σ = [some (.ref p), some (.ref ua), some (.int i), some (.int j), some (.ref f), some (.ref xa), some (.ref ya), s7, s8, s9, s10]) ∧ Ks (fun a => a = f) H0 H' ∧
        ∃ ws, H' f = some (.lst ws) ∧ Paired (TR3 H') ws (likeL (rowA.take n) (rowB.take n) ++ prodM dn b)) pav ⟨⟨_, _, _, _, rfl⟩, k2, ws, kt.at hf1, by
          have e0 : prodM [] b = [] := rfl
          rw [e0, List.append_nil]
          exact pimp (fun v x r => TR3.stb _ _ v x kt.tx r) pw⟩ (fun dn σ H' q => q.2.1.keep _ _ (nf hxa) (k0.at hxa)) ?_ ?_⟩
      · rintro dn x r' v σ H3 e ⟨ta, u1, w1, rfl, hta, htu, rfl⟩ ⟨⟨s7, s8, s9, s10, rfl⟩, k3, ws3, hf3, pw3⟩
        have tx3 : Tx H H3 := k0.tx.trans k3.tx
        have ldn : dn.length + 1 ≤ a.length := by rw [e]; simp
        refine ⟨ta, _, rfl, SqT.of (tx3.tup _ _ hta), rfl, _, _, rfl, _, _, rfl, rfl, ?_⟩
        refine ⟨_, rfl, ya, rfl, ⟨_, SqL.of (k3.keep _ _ (nf hya) (k0.at hya))⟩, fo_L (R := ST H) (fun dm σ H' => (∃ s9 s10, σ = [some (.ref p), some (.ref ua), some (.int i), some (.int j), some (.ref f), some (.ref xa), some (.ref ya), some u1, some (.int x.2), s9, s10]) ∧ Ks (fun a => a = f) H0 H' ∧
          ∃ ws, H' f = some (.lst ws) ∧ Paired (TR3 H') ws (likeL (rowA.take n) (rowB.take n) ++ prodM dn b ++ dm.map fun y => ([x.2, y.2], x.1, y.1))) pbv ⟨⟨_, _, rfl⟩, k3, ws3, hf3, by rw [List.map_nil, List.append_nil]; exact pw3⟩ (fun dn σ H' q => q.2.1.keep _ _ (nf hya) (k0.at hya)) ?_ ?_⟩
        · rintro dm y r2 v σ H4 e2 ⟨tb, u2, w2, rfl, htb, htu2, rfl⟩ ⟨⟨s9, s10, rfl⟩, k4, ws4, hf4, pw4⟩
          have tx4 : Tx H H4 := k0.tx.trans k4.tx
          have ldm : dm.length + 1 ≤ b.length := by rw [e2]; simp
          have lw : ws4.length < sizeLine := by
            rw [plen pw4, List.length_append, List.length_append, len_prodM, List.length_map, sizeLine_eq]
            rw [len_prodM] at lall
            have := Nat.mul_le_mul_right b.length ldn
            rw [Nat.succ_mul] at this
            omega
          refine ⟨tb, _, rfl, SqT.of (tx4.tup _ _ htb), rfl, _, _, rfl, _, _, rfl, rfl, ?_⟩
          refine ⟨_, rfl, .inl ⟨rfl, _, SqL.of hf4⟩, _, rfl, _, rfl, (by show 2 ≤ sizeLine; decide), fun t1 ht1 => ⟨_, rfl, _, rfl, (by show 3 ≤ sizeLine; decide), fun t2 ht2 => ?_⟩⟩
          have k5 : Ke H4 (upd (upd H4 t1 (.tup [.int x.2, .int y.2])) t2 (.tup [.ref t1, u1, u2])) := (Ke.new ht1).trans (Ke.new ht2)
          have h51 : (upd (upd H4 t1 (.tup [.int x.2, .int y.2])) t2 (.tup [.ref t1, u1, u2])) t1 = some (.tup [.int x.2, .int y.2]) := (Ke.new ht2).at upd_same
          have h52 : (upd (upd H4 t1 (.tup [.int x.2, .int y.2])) t2 (.tup [.ref t1, u1, u2])) t2 = some (.tup [.ref t1, u1, u2]) := upd_same
          generalize upd (upd H4 t1 (.tup [.int x.2, .int y.2])) t2 (.tup [.ref t1, u1, u2]) = H5 at k5 h51 h52 ⊢
          have hf5 := k5.at hf4
          have tx5 : Tx H5 (upd H5 f (.lst (ws4 ++ [.ref t2]))) := snoc_tx .refl hf5
          refine ⟨f, ws4, .ref t2, rfl, rfl, hf5, lw, ⟨_, _, rfl⟩, (k4.trans k5.ks).mut rfl (fun ys z => by rw [hf5] at z; cases z), _, upd_same, ?_⟩
          rw [List.map_append, ← List.append_assoc]
          refine papp (pimp (fun v x r => TR3.stb _ _ v x (k5.tx.trans tx5) r) pw4) (.cons ⟨t2, .ref t1, u1, u2, rfl, tx5.tup _ _ h52, ⟨t1, rfl, tx5.tup _ _ h51⟩, TI.stb _ _ _ _ (tx4.trans (k5.tx.trans tx5)) htu, TI.stb _ _ _ _ (tx4.trans (k5.tx.trans tx5)) htu2⟩ .nil)
        · rintro σ H4 ⟨⟨s9, s10, rfl⟩, k4, ws4, hf4, pw4⟩
          refine ⟨⟨_, _, _, _, rfl⟩, k4, ws4, hf4, ?_⟩
          have e3 : prodM (dn ++ [x]) b = prodM dn b ++ b.map fun y => ([x.2, y.2], x.1, y.1) := by
            unfold prodM
            rw [List.flatMap_append]
            simp
          rw [e3, ← List.append_assoc]
          exact pw4
      · rintro σ H3 ⟨⟨s7, s8, s9, s10, rfl⟩, k3, ws3, hf3, pw3⟩
        exact ⟨⟨_, _, _, _, _, _, rfl⟩, k3, ws3, hf3, by rw [el]; exact pw3⟩
    · rintro σ H1 ⟨⟨s5, s6, s7, s8, s9, s10, rfl⟩, k1, ws, hf1, pw⟩
      rw [ela, List.take_length, List.take_of_length_le (by rw [l1, l2]; exact Nat.le_refl _)] at pw
      have kk : Ke H H1 := Ke.then k0 k1 (fun a z => by rw [z]; exact hf)
      exact ⟨_, rfl, k _ H1 _ kk ⟨f, ws, rfl, Nw.new hf hf1, pimp (fun v x r => TR3.stb _ _ v x (Nw.tx kk) r) pw⟩ (mem_likeL irA irB) (by omega)⟩
end
end Fd
set_option Elab.async false
set_option linter.all false
set_option maxRecDepth 100000
set_option maxHeartbeats 4000000
namespace Fd
open PySem PySem.Spec PyProof.Rows L2 RZ
def prodG (h : List Int × Int → List Int × Int → List Int) (a b : List (List Int × Int)) : List Tri := a.flatMap fun x => b.map fun y => (h x y, x.1, y.1)
def likeG (h : List Int × Int → List Int × Int → List Int) (ra rb : List (List (List Int × Int))) : List Tri := (ra.zip rb).flatMap fun p => prodG h p.1 p.2
def WayN (o : Ofc) (ks : List (List Int)) (si sj : List Int) (c : Int) (t : Tri) : Prop := t.2.1 ∈ stepsOf o ∧ t.2.2 ∈ stepsOf o ∧ mk3 t.2.1 = mk3 t.2.2 ∧ goalsM o si t.2.1 ≠ [] ∧ goalsM o sj t.2.2 ≠ [] ∧ t.1 = [((ks.idxOf (goalsM o si t.2.1) : Nat) : Int), ((ks.idxOf (goalsM o sj t.2.2) : Nat) : Int), behindM o ks c t.2.2]
theorem mem_prodG {h : List Int × Int → List Int × Int → List Int} {a b : List (List Int × Int)} {t : Tri} : t ∈ prodG h a b ↔ ∃ x ∈ a, ∃ y ∈ b, t = (h x y, x.1, y.1) := by
  unfold prodG
  rw [List.mem_flatMap]
  constructor
  · rintro ⟨x, hx, h⟩
    obtain ⟨y, hy, rfl⟩ := List.mem_map.mp h
    exact ⟨x, hx, y, hy, rfl⟩
  · rintro ⟨x, hx, y, hy, rfl⟩
    exact ⟨x, hx, List.mem_map.mpr ⟨y, hy, rfl⟩⟩
theorem mem_likeW {o : Ofc} {ks : List (List Int)} {si sj : List Int} {c : Int} {ra rb : List (List (List Int × Int))} (ha : IsRow o ks si ra) (hb : IsRow o ks sj rb) (t : Tri) : t ∈ likeG (fun x y => [x.2, y.2, behindM o ks c y.1]) ra rb ↔ WayN o ks si sj c t := by
  obtain ⟨la, ha⟩ := ha
  obtain ⟨lb, hb⟩ := hb
  unfold likeG
  rw [List.mem_flatMap]
  constructor
  · rintro ⟨p, hp, h⟩
    obtain ⟨j, hj⟩ := List.mem_iff_getElem?.mp hp
    obtain ⟨h1, h2⟩ := List.getElem?_zip_eq_some.mp hj
    obtain ⟨x, hx, y, hy, rfl⟩ := mem_prodG.mp h
    obtain ⟨a1, a2, a3, a4⟩ := ((ha j _ h1).2 x).mp hx
    obtain ⟨b1, b2, b3, b4⟩ := ((hb j _ h2).2 y).mp hy
    refine ⟨a1, b1, by rw [a2, b2], a3, b3, ?_⟩
    show [x.2, y.2, _] = _
    rw [a4, b4]
  · rintro ⟨h1, h2, h3, h4, h5, h6⟩
    obtain ⟨_, m0, m1⟩ := step_mk h1
    obtain ⟨j, hj⟩ : ∃ j : Nat, mk3 t.2.1 = (j : Int) := ⟨(mk3 t.2.1).toNat, by omega⟩
    have hlt : j < (o.sz.getD 2 0).toNat := by omega
    obtain ⟨a, ea⟩ : ∃ a, ra[j]? = some a := ⟨_, List.getElem?_eq_getElem (by omega)⟩
    obtain ⟨b, eb⟩ : ∃ b, rb[j]? = some b := ⟨_, List.getElem?_eq_getElem (by omega)⟩
    refine ⟨(a, b), List.mem_iff_getElem?.mpr ⟨j, List.getElem?_zip_eq_some.mpr ⟨ea, eb⟩⟩, mem_prodG.mpr ⟨(t.2.1, ((ks.idxOf (goalsM o si t.2.1) : Nat) : Int)), ((ha j a ea).2 _).mpr ⟨h1, hj, h4, rfl⟩, (t.2.2, ((ks.idxOf (goalsM o sj t.2.2) : Nat) : Int)), ((hb j b eb).2 _).mpr ⟨h2, by rw [← h3]; exact hj, h5, rfl⟩, ?_⟩⟩
    exact Prod.ext h6 rfl
theorem len_prodG (h : List Int × Int → List Int × Int → List Int) (a b : List (List Int × Int)) : (prodG h a b).length = a.length * b.length := by
  unfold prodG
  induction a with
  | nil => simp
  | cons x a ih =>
    rw [List.flatMap_cons, List.length_append, ih, List.length_map, List.length_cons, Nat.succ_mul]; omega
theorem len_likeG {o : Ofc} {ks : List (List Int)} {si sj : List Int} {ra rb : List (List (List Int × Int))} (h : List Int × Int → List Int × Int → List Int) (ha : IsRow o ks si ra) (hb : IsRow o ks sj rb) (lo : (stepsOf o).length ≤ 250) (lm : (o.sz.getD 2 0).toNat ≤ 63) : (likeG h ra rb).length ≤ 3937500 := by
  have e : (likeG h ra rb).length = (likeL ra rb).length := by
    unfold likeG likeL
    rw [List.length_flatMap, List.length_flatMap]
    congr 1
    exact List.map_congr_left fun p _ => by
      show (prodG h p.1 p.2).length = (prodM p.1 p.2).length
      rw [len_prodG, len_prodM]
  rw [e]
  exact len_likeL ha hb lo lm
theorem likeG_take (h : List Int × Int → List Int × Int → List Int) (ra rb : List (List (List Int × Int))) {i : Nat} {a b : List (List Int × Int)} (ha : ra[i]? = some a) (hb : rb[i]? = some b) : likeG h (ra.take (i + 1)) (rb.take (i + 1)) = likeG h (ra.take i) (rb.take i) ++ prodG h a b := by
  unfold likeG
  rw [zip_take', zip_take', List.take_succ, (List.getElem?_zip_eq_some.mpr ⟨ha, hb⟩ : (ra.zip rb)[i]? = some (a, b)), List.flatMap_append]
  simp
def sp_ways (C CR : Addr) : Sp := fun xs H Q _ => ∃ p o ks u si sj c, ∃ i j : Nat, xs = [.ref p, u] ∧ TwAt C CR H p o ks ∧ TI H u [(i : Int), (j : Int), c] ∧ ks[i]? = some si ∧ ks[j]? = some sj ∧ NumOk ks c ∧
  ∀ v' H' L, Ke H H' → LL TR3 (Nw H H') v' L → (∀ t, t ∈ L ↔ WayN o ks si sj c t) → L.length ≤ 4000000 → Q v' H'
/-- one and the same step -/
def SameN (o : Ofc) (ks : List (List Int)) (si sj : List Int) (t : Tri) : Prop := t.2.1 = t.2.2 ∧ LikeN o ks si sj t
def sp_steps (C CR : Addr) : Sp := fun xs H Q _ => ∃ p o ks u si sj, ∃ i j : Nat, xs = [.ref p, u] ∧ TwAt C CR H p o ks ∧ TI H u [(i : Int), (j : Int)] ∧ ks[i]? = some si ∧ ks[j]? = some sj ∧
  ∀ v' H' L, Ke H H' → LL TR3 (Nw H H') v' L → (∀ t, t ∈ L ↔ SameN o ks si sj t) → L.length ≤ 4000000 → Q v' H'
section
variable {P : Program} {w : World} {K : PySem.W.Frag} {mg : Str → Option Value} {base : Heap} (T : Txt K mg)
include T
theorem ok_ways_on : FnOk P w K mg base CX0 3 T.a_ways_on T.d_ways_on P_ways_on (sp_ways T.a_Twins T.a_Reader) := by
  refine T.F_ways_on.ok sc_ways_on (fun vs H Q E h => ?_) (fun cdv A outer s H vs Q E hr h => ?_)
  · obtain ⟨p, o, ks, u, si, sj, c, i, j, rfl, _⟩ := h; rfl
  · obtain ⟨p, o, ks, u, si, sj, c, i, j, rfl, tw, ⟨ua, rfl, hu0⟩, hi, hj, nc, k⟩ := h
    have tc := T.twc
    obtain ⟨dx, r, vb, hp, ra, ⟨bl, bws, rfl, hbl, pb⟩⟩ := tw.ex
    obtain ⟨va, hva, rowA, ⟨la, was, rfl, hla, pa⟩, irA⟩ := pget pb hi
    obtain ⟨vb, hvb, rowB, ⟨lb, wbs, rfl, hlb, pb'⟩, irB⟩ := pget pb hj
    have lL := len_likeG (fun x y => [x.2, y.2, behindM o ks c y.1]) irA irB tw.lo.1 tw.lo.2
    generalize eG : (fun (x y : List Int × Int) => [x.2, y.2, behindM o ks c y.1]) = gG at lL
    have ela := plen pa
    have elb := plen pb'
    have l1 := irA.1
    have l2 := irB.1
    refine ⟨_, (pss_cons (ps_asg (pv 1) (pg_tup rfl (pgs_cons (pg_name (i := 2) sc_ways_on.nd rfl (Or.inl rfl)) (pgs_cons (pg_name (i := 3) sc_ways_on.nd rfl (Or.inl rfl)) (pgs_cons (pg_name (i := 4) sc_ways_on.nd rfl (Or.inl rfl)) pgs_nil)))))
  (pss_cons (ps_set (i := 5) sc_ways_on.nd rfl (Or.inl rfl) (pe_lst pa_nil))
  (pss_cons (ps_for PassesOwn.never rfl (pi_zipA rfl T.n_zip (pa_cons (pe_ix ix_list (pe_fld (pv 0) rfl) (pv 2) (fun _ _ => rfl)) (pa_cons (pe_ix ix_list (pe_fld (pv 0) rfl) (pv 3) (fun _ _ => rfl)) pa_nil))) (pg_tup rfl (pgs_cons (pg_name (i := 6) sc_ways_on.nd rfl (Or.inl rfl)) (pgs_cons (pg_name (i := 7) sc_ways_on.nd rfl (Or.inl rfl)) pgs_nil))) (pss_one (ps_for PassesOwn.never rfl (pi_list (pv 6)) (pg_tup rfl (pgs_cons (pg_name (i := 8) sc_ways_on.nd rfl (Or.inl rfl)) (pgs_cons (pg_name (i := 9) sc_ways_on.nd rfl (Or.inl rfl)) pgs_nil))) (pss_one (ps_for PassesOwn.never rfl (pi_list (pv 7)) (pg_tup rfl (pgs_cons (pg_name (i := 10) sc_ways_on.nd rfl (Or.inl rfl)) (pgs_cons (pg_name (i := 11) sc_ways_on.nd rfl (Or.inl rfl)) pgs_nil))) (pss_one (ps_expr (pe_bm PySem.F.plainAttrs_list PySem.F.slot_list_append PySem.F.type_list_append mt_append (pv 5) (pa_cons (pe_tup (pa_cons (pe_tup (pa_cons (pv 9) (pa_cons (pv 11) (pa_cons (pe_meth (pv 0) T.c_Twins T.t_Twins_goal (ok_Twins_goal T) (hr.mono (by decide)) T.b_Twins_goal .nil pass0 (pa_cons (pv 4) (pa_cons (pv 10) pa_nil))) pa_nil)))) (pa_cons (pv 8) (pa_cons (pv 10) pa_nil)))) pa_nil)))))))))
  (pss_one (ps_ret (pv 5)))))), ?_⟩
    refine ⟨_, rfl, ua, _, rfl, SqT.of hu0, rfl, _, _, rfl, _, _, rfl, _, _, rfl, rfl, ?_⟩
    refine ⟨by decide, fun f hf => ?_⟩
    have k0 : Ke H (upd H f (.lst [])) := Ke.new hf
    have hf0 : (upd H f (.lst [])) f = some (.lst []) := upd_same
    generalize upd H f (.lst []) = H0 at k0 hf0 ⊢
    refine ⟨_, rfl, p, _, dx, _, _, rfl, k0.at hp, tc.c, tc.n2, twF_b, _, rfl, bl, bws, (i : Int), .ref la, rfl, rfl, SqL.of (k0.at hbl), atI_nat hva rfl, _, rfl, p, _, dx, _, _, rfl, k0.at hp, tc.c, tc.n2, twF_b, _, rfl, bl, bws, (j : Int), .ref lb, rfl, rfl, SqL.of (k0.at hbl), atI_nat hvb rfl, ?_⟩
    have nf : ∀ {a : Addr} {o : HO}, H a = some o → a ≠ f := fun h => ne_of_none h hf
    refine ⟨la, lb, was, wbs, rfl, .inl ⟨SqL.of (k0.at hla), SqL.of (k0.at hlb), for_it (walk_zip (n := was.length) (by rw [ela, elb, l1, l2]; simp)) (fun n σ H' => (∃ s5 s6 s7 s8 s9 s10, σ = [some (.ref p), some (.ref ua), some (.int i), some (.int j), some (.int c), some (.ref f), s5, s6, s7, s8, s9, s10]) ∧ Ks (fun a => a = f) H0 H' ∧
      ∃ ws, H' f = some (.lst ws) ∧ Paired (TR3 H') ws (likeG gG (rowA.take n) (rowB.take n))) ⟨⟨_, _, _, _, _, _, rfl⟩, .refl, [], hf0, .nil⟩ (fun n σ H' _ q => ⟨SqL.of (q.2.1.keep _ _ (nf hla) (k0.at hla)), SqL.of (q.2.1.keep _ _ (nf hlb) (k0.at hlb))⟩) ?_ ?_⟩⟩
    · rintro n x σ H1 H2 hlt ⟨⟨s5, s6, s7, s8, s9, s10, rfl⟩, k1, ws, hf1, pw⟩ ⟨t, x', y', rfl, ht, rfl, ea, eb⟩
      obtain ⟨a, ea', xa, avs, rfl, hxa, pav⟩ := pgetL pa ea
      obtain ⟨b, eb', ya, bvs, rfl, hya, pbv⟩ := pgetL pb' eb
      have kt : Ke H1 (upd H1 t (.tup [.ref xa, .ref ya])) := Ke.new ht
      have ht2 : (upd H1 t (.tup [.ref xa, .ref ya])) t = some (.tup [.ref xa, .ref ya]) := upd_same
      generalize upd H1 t (.tup [.ref xa, .ref ya]) = H2 at kt ht2 ⊢
      have k2 := k1.trans kt.ks
      have el := likeG_take gG rowA rowB ea' eb'
      have lall : (likeG gG (rowA.take n) (rowB.take n)).length + (prodG gG a b).length ≤ 3937500 := by
        refine Nat.le_trans ?_ lL
        rw [← List.length_append, ← el]
        unfold likeG
        rw [zip_take']
        exact flat_take_len _ _ _
      have txH : Tx H H2 := k0.tx.trans k2.tx
      refine ⟨t, _, rfl, SqT.of ht2, rfl, _, _, rfl, _, _, rfl, rfl, ?_⟩
      refine ⟨_, rfl, xa, rfl, ⟨_, SqL.of (k2.keep _ _ (nf hxa) (k0.at hxa))⟩, fo_L (R := ST H) (fun dn σ H' => (∃ s7 s8 s9 s10, σ = [some (.ref p), some (.ref ua), some (.int i), some (.int j), some (.int c), some (.ref f), some (.ref xa), some (.ref ya), s7, s8, s9, s10]) ∧ Ks (fun a => a = f) H0 H' ∧
        ∃ ws, H' f = some (.lst ws) ∧ Paired (TR3 H') ws (likeG gG (rowA.take n) (rowB.take n) ++ prodG gG dn b)) pav ⟨⟨_, _, _, _, rfl⟩, k2, ws, kt.at hf1, by
          have e0 : prodG gG [] b = [] := rfl
          rw [e0, List.append_nil]
          exact pimp (fun v x r => TR3.stb _ _ v x kt.tx r) pw⟩ (fun dn σ H' q => q.2.1.keep _ _ (nf hxa) (k0.at hxa)) ?_ ?_⟩
      · rintro dn x r' v σ H3 e ⟨ta, u1, w1, rfl, hta, htu, rfl⟩ ⟨⟨s7, s8, s9, s10, rfl⟩, k3, ws3, hf3, pw3⟩
        have tx3 : Tx H H3 := k0.tx.trans k3.tx
        have ldn : dn.length + 1 ≤ a.length := by rw [e]; simp
        refine ⟨ta, _, rfl, SqT.of (tx3.tup _ _ hta), rfl, _, _, rfl, _, _, rfl, rfl, ?_⟩
        refine ⟨_, rfl, ya, rfl, ⟨_, SqL.of (k3.keep _ _ (nf hya) (k0.at hya))⟩, fo_L (R := ST H) (fun dm σ H' => (∃ s9 s10, σ = [some (.ref p), some (.ref ua), some (.int i), some (.int j), some (.int c), some (.ref f), some (.ref xa), some (.ref ya), some u1, some (.int x.2), s9, s10]) ∧ Ks (fun a => a = f) H0 H' ∧
          ∃ ws, H' f = some (.lst ws) ∧ Paired (TR3 H') ws (likeG gG (rowA.take n) (rowB.take n) ++ prodG gG dn b ++ dm.map fun y => (gG x y, x.1, y.1))) pbv ⟨⟨_, _, rfl⟩, k3, ws3, hf3, by rw [List.map_nil, List.append_nil]; exact pw3⟩ (fun dn σ H' q => q.2.1.keep _ _ (nf hya) (k0.at hya)) ?_ ?_⟩
        · rintro dm y r2 v σ H4 e2 ⟨tb, u2, w2, rfl, htb, htu2, rfl⟩ ⟨⟨s9, s10, rfl⟩, k4, ws4, hf4, pw4⟩
          have tx4 : Tx H H4 := k0.tx.trans k4.tx
          have ldm : dm.length + 1 ≤ b.length := by rw [e2]; simp
          have lw : ws4.length < sizeLine := by
            rw [plen pw4, List.length_append, List.length_append, len_prodG, List.length_map, sizeLine_eq]
            rw [len_prodG] at lall
            have := Nat.mul_le_mul_right b.length ldn
            rw [Nat.succ_mul] at this
            omega
          refine ⟨tb, _, rfl, SqT.of (tx4.tup _ _ htb), rfl, _, _, rfl, _, _, rfl, rfl, ?_⟩
          have kk4 : Ke H H4 := Ke.then k0 k4 (fun a z => by rw [z]; exact hf)
          have tw4 := tw.ke kk4
          obtain ⟨y1, y2⟩ := y
          refine ⟨_, rfl, .inl ⟨rfl, _, SqL.of hf4⟩, _, rfl, _, rfl, _, rfl, p, dx, _, rfl, kk4.at hp, (by rfl), _, rfl, _, rfl, p, o, ks, c, u2, y1, rfl, tw4, nc, TI.stb _ _ _ _ tx4 htu2, (by show 3 ≤ sizeLine; decide), fun t1 ht1 => ⟨_, rfl, _, rfl, (by show 3 ≤ sizeLine; decide), fun t2 ht2 => ?_⟩⟩
          have k5 : Ke H4 (upd (upd H4 t1 (.tup [.int x.2, .int y2, .int (behindM o ks c y1)])) t2 (.tup [.ref t1, u1, u2])) := (Ke.new ht1).trans (Ke.new ht2)
          have h51 : (upd (upd H4 t1 (.tup [.int x.2, .int y2, .int (behindM o ks c y1)])) t2 (.tup [.ref t1, u1, u2])) t1 = some (.tup [.int x.2, .int y2, .int (behindM o ks c y1)]) := (Ke.new ht2).at upd_same
          have h52 : (upd (upd H4 t1 (.tup [.int x.2, .int y2, .int (behindM o ks c y1)])) t2 (.tup [.ref t1, u1, u2])) t2 = some (.tup [.ref t1, u1, u2]) := upd_same
          generalize upd (upd H4 t1 (.tup [.int x.2, .int y2, .int (behindM o ks c y1)])) t2 (.tup [.ref t1, u1, u2]) = H5 at k5 h51 h52 ⊢
          have hf5 := k5.at hf4
          have tx5 : Tx H5 (upd H5 f (.lst (ws4 ++ [.ref t2]))) := snoc_tx .refl hf5
          refine ⟨f, ws4, .ref t2, rfl, rfl, hf5, lw, ⟨_, _, rfl⟩, (k4.trans k5.ks).mut rfl (fun ys z => by rw [hf5] at z; cases z), _, upd_same, ?_⟩
          rw [List.map_append, ← List.append_assoc]
          refine papp (pimp (fun v x r => TR3.stb _ _ v x (k5.tx.trans tx5) r) pw4) (.cons ⟨t2, .ref t1, u1, u2, rfl, tx5.tup _ _ h52, ⟨t1, rfl, ?_⟩, TI.stb _ _ _ _ (tx4.trans (k5.tx.trans tx5)) htu, TI.stb _ _ _ _ (tx4.trans (k5.tx.trans tx5)) htu2⟩ .nil)
          rw [← eG]
          exact tx5.tup _ _ h51
        · rintro σ H4 ⟨⟨s9, s10, rfl⟩, k4, ws4, hf4, pw4⟩
          refine ⟨⟨_, _, _, _, rfl⟩, k4, ws4, hf4, ?_⟩
          have e3 : prodG gG (dn ++ [x]) b = prodG gG dn b ++ b.map fun y => (gG x y, x.1, y.1) := by
            unfold prodG
            rw [List.flatMap_append]
            simp
          rw [e3, ← List.append_assoc]
          exact pw4
      · rintro σ H3 ⟨⟨s7, s8, s9, s10, rfl⟩, k3, ws3, hf3, pw3⟩
        exact ⟨⟨_, _, _, _, _, _, rfl⟩, k3, ws3, hf3, by rw [el]; exact pw3⟩
    · rintro σ H1 ⟨⟨s5, s6, s7, s8, s9, s10, rfl⟩, k1, ws, hf1, pw⟩
      rw [ela, List.take_length, List.take_of_length_le (by rw [l1, l2]; exact Nat.le_refl _)] at pw
      have kk : Ke H H1 := Ke.then k0 k1 (fun a z => by rw [z]; exact hf)
      exact ⟨_, rfl, k _ H1 _ kk ⟨f, ws, rfl, Nw.new hf hf1, pimp (fun v x r => TR3.stb _ _ v x (Nw.tx kk) r) pw⟩ (by rw [← eG]; exact mem_likeW irA irB) (by omega)⟩
end
end Fd
set_option Elab.async false
set_option linter.all false
set_option maxRecDepth 100000
set_option maxHeartbeats 4000000
namespace Fd
open PySem PySem.Spec PyProof.Rows L2 RZ
theorem behind_at {o : Ofc} {ks : List (List Int)} {i : Nat} {s st : List Int} (hs : ks[i]? = some s) (ht : st ∈ stepsOf o) : (goalsM o s st ≠ [] ∧ behindM o ks (i : Int) st = ((ks.idxOf (goalsM o s st) : Nat) : Int)) ∨ (goalsM o s st = [] ∧ behindM o ks (i : Int) st = -1) := by
  have e : (i : Int).toNat = i := by omega
  have eg : ks.getD i [] = s := by rw [List.getD_eq_getElem?_getD, hs]; rfl
  by_cases c : goalsM o s st = []
  · refine .inr ⟨c, ?_⟩
    unfold behindM
    refine if_neg fun ⟨_, s', h, _, n⟩ => ?_
    rw [e, hs] at h
    cases h
    exact n c
  · refine .inl ⟨c, ?_⟩
    unfold behindM
    rw [if_pos ⟨by omega, s, by rw [e]; exact hs, ht, c⟩, e, eg]
def stF (g : List Int → Int) (x : List Int × Int) : Option Tri := if g x.1 = -1 then none else some ([x.2, g x.1], x.1, x.1)
def stL (g : List Int → Int) (row : List (List (List Int × Int))) : List Tri := row.flatMap fun l => l.filterMap (stF g)
theorem mem_stL {o : Ofc} {ks : List (List Int)} {si sj : List Int} {j : Nat} {ra : List (List (List Int × Int))} (ha : IsRow o ks si ra) (hj : ks[j]? = some sj) (t : Tri) : t ∈ stL (behindM o ks (j : Int)) ra ↔ SameN o ks si sj t := by
  obtain ⟨la, ha⟩ := ha
  unfold stL
  rw [List.mem_flatMap]
  constructor
  · rintro ⟨l, hl, h⟩
    obtain ⟨m, hm⟩ := List.mem_iff_getElem?.mp hl
    obtain ⟨x, hx, e⟩ := List.mem_filterMap.mp h
    obtain ⟨a1, a2, a3, a4⟩ := ((ha m _ hm).2 x).mp hx
    unfold stF at e
    by_cases c : behindM o ks (j : Int) x.1 = -1
    · rw [if_pos c] at e; cases e
    · rw [if_neg c] at e
      cases e
      rcases behind_at hj a1 with ⟨b1, b2⟩ | ⟨_, b2⟩
      · refine ⟨rfl, a1, a1, rfl, a3, b1, ?_⟩
        show [x.2, behindM o ks (j : Int) x.1] = _
        rw [b2, a4]
      · exact absurd b2 c
  · obtain ⟨q, u, v⟩ := t
    rintro ⟨h0, h1, h2, h3, h4, h5, h6⟩
    have h0 : u = v := h0
    subst h0
    obtain ⟨_, m0, m1⟩ := step_mk h1
    obtain ⟨m, hm⟩ : ∃ m : Nat, mk3 u = (m : Int) := ⟨(mk3 u).toNat, by have : 0 ≤ mk3 u := m0; omega⟩
    have m1 : mk3 u < o.sz.getD 2 0 := m1
    obtain ⟨a, ea⟩ : ∃ a, ra[m]? = some a := ⟨_, List.getElem?_eq_getElem (by omega)⟩
    refine ⟨a, List.mem_of_getElem? ea, List.mem_filterMap.mpr ⟨(u, ((ks.idxOf (goalsM o si u) : Nat) : Int)), ((ha m a ea).2 _).mpr ⟨h1, hm, h4, rfl⟩, ?_⟩⟩
    unfold stF
    rcases behind_at hj h1 with ⟨b1, b2⟩ | ⟨b1, _⟩
    · rw [if_neg (by show ¬ behindM o ks (j : Int) u = -1; rw [b2]; omega)]
      congr 1
      refine Prod.ext ?_ rfl
      show [_, behindM o ks (j : Int) u] = q
      rw [b2]
      exact h6.symm
    · exact absurd b1 h5
theorem len_stL {g : List Int → Int} : ∀ {row : List (List (List Int × Int))} {n : Nat}, (∀ a ∈ row, a.length ≤ n) → (stL g row).length ≤ row.length * n
  | [], _, _ => by simp [stL]
  | a :: row, n, h => by
    have ih := len_stL (g := g) (row := row) (n := n) fun x hx => h x (by simp [hx])
    have h1 := h a (by simp)
    have h2 : (a.filterMap (stF g)).length ≤ a.length := List.length_filterMap_le _ _
    unfold stL at ih ⊢
    rw [List.flatMap_cons, List.length_append, List.length_cons, Nat.succ_mul]
    omega
section
variable {P : Program} {w : World} {K : PySem.W.Frag} {mg : Str → Option Value} {base : Heap} (T : Txt K mg)
include T
theorem ok_Twins_like_steps : FnOk P w K mg base CX0 3 T.a_Twins_like_steps T.d_Twins_like_steps P_Twins_like_steps (sp_steps T.a_Twins T.a_Reader) := by
  refine T.F_Twins_like_steps.ok sc_Twins_like_steps (fun vs H Q E h => ?_) (fun cdv A outer s H vs Q E hr h => ?_)
  · obtain ⟨p, o, ks, u, si, sj, i, j, rfl, _⟩ := h; rfl
  · obtain ⟨p, o, ks, u, si, sj, i, j, rfl, tw, ⟨ua, rfl, hu0⟩, hi, hj, k⟩ := h
    have tc := T.twc
    obtain ⟨dx, r, vb, hp, ra, ⟨bl, bws, rfl, hbl, pb⟩⟩ := tw.ex
    obtain ⟨va, hva, rowA, ⟨la, was, rfl, hla, pa⟩, irA⟩ := pget pb hi
    have lL := len_stL (g := behindM o ks (j : Int)) (irA.short tw.lo.1)
    have l1 := irA.1
    have l63 := tw.lo.2
    have lL : (stL (behindM o ks (j : Int)) rowA).length ≤ 15750 := by rw [l1] at lL; omega
    have nj : NumOk ks (j : Int) := .inr ⟨by omega, by have := (List.getElem?_eq_some_iff.mp hj).1; omega⟩
    refine ⟨_, (pss_cons (ps_asg (pv 1) (pg_tup rfl (pgs_cons (pg_name (i := 2) sc_Twins_like_steps.nd rfl (Or.inl rfl)) (pgs_cons (pg_name (i := 3) sc_Twins_like_steps.nd rfl (Or.inl rfl)) pgs_nil))))
  (pss_cons (ps_set (i := 4) sc_Twins_like_steps.nd rfl (Or.inl rfl) (pe_lst pa_nil))
  (pss_cons (ps_for PassesOwn.never rfl (pi_list (pe_ix ix_list (pe_fld (pv 0) rfl) (pv 2) (fun _ _ => rfl))) (pg_name (i := 5) sc_Twins_like_steps.nd rfl (Or.inl rfl)) (pss_one (ps_for PassesOwn.never rfl (pi_list (pv 5)) (pg_tup rfl (pgs_cons (pg_name (i := 6) sc_Twins_like_steps.nd rfl (Or.inl rfl)) (pgs_cons (pg_name (i := 7) sc_Twins_like_steps.nd rfl (Or.inl rfl)) pgs_nil))) (pss_cons (ps_set (i := 8) sc_Twins_like_steps.nd rfl (Or.inl rfl) (pe_meth (pv 0) T.c_Twins T.t_Twins_goal (ok_Twins_goal T) (hr.mono (by decide)) T.b_Twins_goal .nil pass0 (pa_cons (pv 3) (pa_cons (pv 6) pa_nil))))
  (pss_one (ps_if (pt_cmpR op_ne (pv 8) (pe_glob (v := .int (-1)) rfl T.g_DEAD ⟨_, rfl⟩) (nomark _)) (pss_one (ps_expr (pe_bm PySem.F.plainAttrs_list PySem.F.slot_list_append PySem.F.type_list_append mt_append (pv 4) (pa_cons (pe_tup (pa_cons (pe_tup (pa_cons (pv 7) (pa_cons (pv 8) pa_nil))) (pa_cons (pv 6) (pa_cons (pv 6) pa_nil)))) pa_nil)))) pss_nil))))))
  (pss_one (ps_ret (pv 4)))))), ?_⟩
    refine ⟨_, rfl, ua, _, rfl, SqT.of hu0, rfl, _, _, rfl, _, _, rfl, rfl, ?_⟩
    refine ⟨by decide, fun f hf => ?_⟩
    have k0 : Ke H (upd H f (.lst [])) := Ke.new hf
    have hf0 : (upd H f (.lst [])) f = some (.lst []) := upd_same
    generalize upd H f (.lst []) = H0 at k0 hf0 ⊢
    have nf : ∀ {a : Addr} {o : HO}, H a = some o → a ≠ f := fun h => ne_of_none h hf
    refine ⟨_, rfl, p, _, dx, _, _, rfl, k0.at hp, tc.c, tc.n2, twF_b, _, rfl, bl, bws, (i : Int), .ref la, rfl, rfl, SqL.of (k0.at hbl), atI_nat hva rfl, la, rfl, ⟨_, SqL.of (k0.at hla)⟩, ?_⟩
    refine fo_L (R := LL ST H) (fun dn σ H' => (∃ s5 s6 s7 s8, σ = [some (.ref p), some (.ref ua), some (.int i), some (.int j), some (.ref f), s5, s6, s7, s8]) ∧ Ks (fun a => a = f) H0 H' ∧ ∃ ws, H' f = some (.lst ws) ∧ Paired (TR3 H') ws (stL (behindM o ks (j : Int)) dn)) pa
      ⟨⟨_, _, _, _, rfl⟩, .refl, [], hf0, .nil⟩ (fun dn σ H' q => q.2.1.keep _ _ (nf hla) (k0.at hla)) ?_ ?_
    · rintro dn a r0 v σ H1 e ⟨xa, avs, rfl, hxa, pav⟩ ⟨⟨s5, s6, s7, s8, rfl⟩, k1, ws, hf1, pw⟩
      have lall : (stL (behindM o ks (j : Int)) dn).length + (a.filterMap (stF (behindM o ks (j : Int)))).length ≤ 15750 := by
        refine Nat.le_trans ?_ lL
        rw [e]
        unfold stL
        rw [List.flatMap_append, List.flatMap_cons, List.length_append, List.length_append]
        omega
      refine ⟨_, rfl, xa, rfl, ⟨_, SqL.of (k1.keep _ _ (nf hxa) (k0.at hxa))⟩, fo_L (R := ST H) (fun dm σ H' => (∃ s6 s7 s8, σ = [some (.ref p), some (.ref ua), some (.int i), some (.int j), some (.ref f), some (.ref xa), s6, s7, s8]) ∧ Ks (fun a => a = f) H0 H' ∧
        ∃ ws, H' f = some (.lst ws) ∧ Paired (TR3 H') ws (stL (behindM o ks (j : Int)) dn ++ dm.filterMap (stF (behindM o ks (j : Int))))) pav ⟨⟨_, _, _, rfl⟩, k1, ws, hf1, by rw [List.filterMap_nil, List.append_nil]; exact pw⟩ (fun dn σ H' q => q.2.1.keep _ _ (nf hxa) (k0.at hxa)) ?_ ?_⟩
      · rintro dm x r2 v σ H2 e2 ⟨ta, u1, w1, rfl, hta, htu, rfl⟩ ⟨⟨s6, s7, s8, rfl⟩, k2, ws2, hf2, pw2⟩
        have kk : Ke H H2 := Ke.then k0 k2 (fun a z => by rw [z]; exact hf)
        have tx2 := kk.tx
        have htu2 := TI.stb _ _ _ _ tx2 htu
        refine ⟨ta, _, rfl, SqT.of (tx2.tup _ _ hta), rfl, _, _, rfl, _, _, rfl, rfl, ?_⟩
        refine ⟨_, rfl, p, dx, _, rfl, kk.at hp, (by rfl), _, rfl, _, rfl, p, o, ks, (j : Int), u1, x.1, rfl, tw.ke kk, nj, htu2, stepN ?_⟩
        refine ⟨_, rfl, rfl, _, rfl, ?_⟩
        have lw : ws2.length < sizeLine := by
          rw [plen pw2, List.length_append, sizeLine_eq]
          have : (dm.filterMap (stF (behindM o ks (j : Int)))).length ≤ (a.filterMap (stF (behindM o ks (j : Int)))).length := by
            rw [e2, List.filterMap_append, List.length_append]; omega
          omega
        by_cases c : behindM o ks (j : Int) x.1 = -1
        · have en : (dm ++ [x]).filterMap (stF (behindM o ks (j : Int))) = dm.filterMap (stF (behindM o ks (j : Int))) := by
            rw [List.filterMap_append]
            simp [stF, c]
          refine ifNT (by rw [c]) (stepT ⟨⟨_, _, _, rfl⟩, k2, ws2, hf2, ?_⟩)
          rw [en]; exact pw2
        · have en : (dm ++ [x]).filterMap (stF (behindM o ks (j : Int))) = dm.filterMap (stF (behindM o ks (j : Int))) ++ [([x.2, behindM o ks (j : Int) x.1], x.1, x.1)] := by
            rw [List.filterMap_append]
            simp [stF, c]
          refine ifNF (fun z => c (by injection z)) ?_
          refine ⟨_, rfl, .inl ⟨rfl, _, SqL.of hf2⟩, _, rfl, _, rfl, (by show 2 ≤ sizeLine; decide), fun t1 ht1 => ⟨_, rfl, _, rfl, (by show 3 ≤ sizeLine; decide), fun t2 ht2 => ?_⟩⟩
          generalize behindM o ks (j : Int) x.1 = gx at *
          have k5 : Ke H2 (upd (upd H2 t1 (.tup [.int x.2, .int gx])) t2 (.tup [.ref t1, u1, u1])) := (Ke.new ht1).trans (Ke.new ht2)
          have h51 : (upd (upd H2 t1 (.tup [.int x.2, .int gx])) t2 (.tup [.ref t1, u1, u1])) t1 = some (.tup [.int x.2, .int gx]) := (Ke.new ht2).at upd_same
          have h52 : (upd (upd H2 t1 (.tup [.int x.2, .int gx])) t2 (.tup [.ref t1, u1, u1])) t2 = some (.tup [.ref t1, u1, u1]) := upd_same
          generalize upd (upd H2 t1 (.tup [.int x.2, .int gx])) t2 (.tup [.ref t1, u1, u1]) = H5 at k5 h51 h52 ⊢
          have hf5 := k5.at hf2
          have tx5 : Tx H5 (upd H5 f (.lst (ws2 ++ [.ref t2]))) := snoc_tx .refl hf5
          refine ⟨f, ws2, .ref t2, rfl, rfl, hf5, lw, ⟨_, _, _, rfl⟩, (k2.trans k5.ks).mut rfl (fun ys z => by rw [hf5] at z; cases z), _, upd_same, ?_⟩
          rw [en, ← List.append_assoc]
          exact papp (pimp (fun v x r => TR3.stb _ _ v x (k5.tx.trans tx5) r) pw2) (.cons ⟨t2, .ref t1, u1, u1, rfl, tx5.tup _ _ h52, ⟨t1, rfl, tx5.tup _ _ h51⟩, TI.stb _ _ _ _ (k5.tx.trans tx5) htu2, TI.stb _ _ _ _ (k5.tx.trans tx5) htu2⟩ .nil)
      · rintro σ H2 ⟨⟨s6, s7, s8, rfl⟩, k2, ws2, hf2, pw2⟩
        refine ⟨⟨_, _, _, _, rfl⟩, k2, ws2, hf2, ?_⟩
        have e3 : stL (behindM o ks (j : Int)) (dn ++ [a]) = stL (behindM o ks (j : Int)) dn ++ a.filterMap (stF (behindM o ks (j : Int))) := by
          unfold stL
          rw [List.flatMap_append]
          simp
        rw [e3]
        exact pw2
    · rintro σ H1 ⟨⟨s5, s6, s7, s8, rfl⟩, k1, ws, hf1, pw⟩
      have kk : Ke H H1 := Ke.then k0 k1 (fun a z => by rw [z]; exact hf)
      exact ⟨_, rfl, k _ H1 _ kk ⟨f, ws, rfl, Nw.new hf hf1, pimp (fun v x r => TR3.stb _ _ v x (Nw.tx kk) r) pw⟩ (mem_stL irA hj) (by omega)⟩
end
end Fd
set_option Elab.async false
set_option linter.all false
set_option maxRecDepth 100000
set_option maxHeartbeats 4000000
/-! Levels by numbers. -/
namespace Fd
open PySem PySem.Spec PyProof.Rows L2
/-- a pair of numbers, its sets of a level -/
def Pn (o : Ofc) (ks : List (List Int)) (n : Nat) (x : List Int) : Prop := ∃ (i j : Nat) (si sj : List Int), x = [(i : Int), (j : Int)] ∧ ks[i]? = some si ∧ ks[j]? = some sj ∧ Lv o n (si, sj)
/-- steps with one mark lead on, by numbers -/
def NS (o : Ofc) (ks : List (List Int)) (x y : List Int) : Prop := ∃ (i j : Nat) (si sj : List Int) (t : Tri), x = [(i : Int), (j : Int)] ∧ ks[i]? = some si ∧ ks[j]? = some sj ∧ LikeN o ks si sj t ∧ y = t.1
/-- one and the same step leads on -/
def NT (o : Ofc) (ks : List (List Int)) (x y : List Int) : Prop := ∃ (i j : Nat) (si sj : List Int) (t : Tri), x = [(i : Int), (j : Int)] ∧ ks[i]? = some si ∧ ks[j]? = some sj ∧ SameN o ks si sj t ∧ y = t.1
/-- the pairs of a level -/
def IsLev (o : Ofc) (ks : List (List Int)) (n : Nat) (L : List (List Int)) : Prop := L.Nodup ∧ ∀ x, x ∈ L ↔ Pn o ks n x
theorem idx_get {ks : List (List Int)} {g : List Int} (h : g ∈ ks) : ks[ks.idxOf g]? = some g := by
  rw [List.getElem?_eq_getElem (List.idxOf_lt_length_iff.mpr h), List.getElem_idxOf]
theorem nat_pair {i j i' j' : Nat} (h : [(i : Int), (j : Int)] = [(i' : Int), (j' : Int)]) : i = i' ∧ j = j' := by
  injection h with h1 h2
  injection h2 with h2 _
  omega
section
variable {o : Ofc} {ks : List (List Int)} (k : KsI o ks) (cl : Closed o ks ks.length)
include k cl
theorem mem_next {n : Nat} {s st : List Int} (h : Reach o s) (hs : st ∈ stepsOf o) (hn : goalsM o s st ≠ []) : goalsM o s st ∈ ks := (Reach.s h hs hn).ks k cl
theorem Pn.ns {x y : List Int} (h : Pn o ks 0 x) (s : NS o ks x y) : Pn o ks 0 y := by
  obtain ⟨i, j, si, sj, e, h1, h2, lv⟩ := h
  obtain ⟨i', j', si', sj', t, e', g1, g2, ⟨t1, t2, t3, t4, t5, t6⟩, ey⟩ := s
  obtain ⟨rfl, rfl⟩ := nat_pair (e.symm.trans e')
  rw [h1] at g1; cases g1
  rw [h2] at g2; cases g2
  have r := Lv.reach lv
  refine ⟨_, _, _, _, ey.trans t6, idx_get (mem_next (n := 0) k cl r.1 t1 t4), idx_get (mem_next (n := 0) k cl r.2 t2 t5), ?_⟩
  exact Lv1.s lv ⟨_, t1, _, t2, t3, rfl, t4, t5⟩
theorem Pn.nt {n : Nat} {x y : List Int} (h : Pn o ks n x) (s : NT o ks x y) : Pn o ks (n + 1) y := by
  obtain ⟨i, j, si, sj, e, h1, h2, lv⟩ := h
  obtain ⟨i', j', si', sj', t, e', g1, g2, ⟨t0, t1, t2, t3, t4, t5, t6⟩, ey⟩ := s
  obtain ⟨rfl, rfl⟩ := nat_pair (e.symm.trans e')
  rw [h1] at g1; cases g1
  rw [h2] at g2; cases g2
  have r := Lv.reach lv
  refine ⟨_, _, _, _, ey.trans t6, idx_get (mem_next (n := 0) k cl r.1 t1 t4), idx_get (mem_next (n := 0) k cl r.2 t2 t5), ?_⟩
  rw [t0] at t4 ⊢
  exact ⟨(si, sj), lv, _, t2, rfl, t4, t5⟩
/-- from a number's set on -/
theorem num_of {s : List Int} (h : s ∈ ks) {i : Nat} (hi : ks[i]? = some s) : i = ks.idxOf s := by
  have h1 := idx_get h
  have hlt := (List.getElem?_eq_some_iff.mp hi).1
  exact (List.getElem?_inj hlt k.nd).mp (hi.trans h1.symm)
theorem lev_all {L : List (List Int)} (h0 : [0, 0] ∈ L) (hc : ∀ x ∈ L, ∀ y, NS o ks x y → y ∈ L) : ∀ {q : PrS}, Lv1 o q → ∀ (i j : Nat), ks[i]? = some q.1 → ks[j]? = some q.2 → [(i : Int), (j : Int)] ∈ L := by
  intro q h
  induction h with
  | z =>
    intro i j hi hj
    have e1 := num_of k cl (List.mem_of_getElem? hi) hi
    have e2 := num_of k cl (List.mem_of_getElem? hj) hj
    have e0 := num_of k cl (List.mem_of_getElem? k.hd) k.hd
    have : i = 0 := by rw [e1, ← e0]
    subst this
    have : j = 0 := by rw [e2, ← e0]
    subst this
    exact h0
  | @s p q hp m ih =>
    intro i j hi hj
    obtain ⟨st, hs, st', hs', hm, rfl, n1, n2⟩ := m
    have r := hp.reach
    have m1 := r.1.ks k cl
    have m2 := r.2.ks k cl
    have := hc _ (ih _ _ (idx_get m1) (idx_get m2)) _ ⟨_, _, _, _, ([((ks.idxOf (goalsM o p.1 st) : Nat) : Int), ((ks.idxOf (goalsM o p.2 st') : Nat) : Int)], st, st'), rfl, idx_get m1, idx_get m2, ⟨hs, hs', hm, n1, n2, rfl⟩, rfl⟩
    rw [num_of k cl (List.mem_of_getElem? hi) hi, num_of k cl (List.mem_of_getElem? hj) hj]
    exact this
theorem isLev_zero {L : List (List Int)} (nd : L.Nodup) (h0 : [0, 0] ∈ L) (hp : ∀ x ∈ L, Pn o ks 0 x) (hc : ∀ x ∈ L, ∀ y, NS o ks x y → y ∈ L) : IsLev o ks 0 L :=
  ⟨nd, fun x => ⟨hp x, fun ⟨i, j, si, sj, e, h1, h2, lv⟩ => by rw [e]; exact lev_all k cl h0 hc lv i j h1 h2⟩⟩
theorem isLev_next {n : Nat} {L M : List (List Int)} (h : IsLev o ks n L) (nd : M.Nodup) (hm : ∀ y, y ∈ M ↔ ∃ x ∈ L, NT o ks x y) : IsLev o ks (n + 1) M := by
  refine ⟨nd, fun y => ⟨fun hy => ?_, fun hy => ?_⟩⟩
  · obtain ⟨x, hx, s⟩ := (hm y).mp hy
    exact ((h.2 x).mp hx).nt k cl s
  · obtain ⟨i, j, si, sj, e, h1, h2, ⟨a, b⟩, lv, st, hs, e2, n1, n2⟩ := hy
    have e3 := congrArg Prod.fst e2
    have e4 := congrArg Prod.snd e2
    have e3 : si = goalsM o a st := e3
    have e4 : sj = goalsM o b st := e4
    subst e3 e4
    have r := Lv.reach lv
    have m1 := r.1.ks k cl
    have m2 := r.2.ks k cl
    refine (hm y).mpr ⟨[((ks.idxOf a : Nat) : Int), ((ks.idxOf b : Nat) : Int)], (h.2 _).mpr ⟨_, _, _, _, rfl, idx_get m1, idx_get m2, lv⟩, _, _, _, _, ([((ks.idxOf (goalsM o a st) : Nat) : Int), ((ks.idxOf (goalsM o b st) : Nat) : Int)], st, st), rfl, idx_get m1, idx_get m2, ⟨rfl, hs, hs, rfl, n1, n2, rfl⟩, ?_⟩
    rw [e, num_of k cl (List.mem_of_getElem? h1) h1, num_of k cl (List.mem_of_getElem? h2) h2]
theorem len_pn {n : Nat} {L : List (List Int)} (nd : L.Nodup) (h : ∀ x ∈ L, Pn o ks n x) : L.length ≤ 3600 := by
  have h1 := len_sub (b := (ran 60).flatMap fun i => (ran 60).map fun j => [i, j]) nd fun x hx => by
    obtain ⟨i, j, si, sj, rfl, h1, h2, _⟩ := h x hx
    have l1 := (List.getElem?_eq_some_iff.mp h1).1
    have l2 := (List.getElem?_eq_some_iff.mp h2).1
    have := k.le
    exact List.mem_flatMap.mpr ⟨i, mem_ran.mpr ⟨by omega, by omega⟩, List.mem_map.mpr ⟨j, mem_ran.mpr ⟨by omega, by omega⟩, rfl⟩⟩
  refine Nat.le_trans h1 ?_
  have h2 := flat_len (f := fun i => (ran 60).map fun j => [i, j]) (n := 60) (fun a => by rw [List.length_map]; unfold ran; simp) (ran 60)
  refine Nat.le_trans h2 ?_
  unfold ran
  simp
end
/-- a dict with these keys -/
def KD (H : Hp) (d : Addr) (L : List (List Int)) : Prop := ∃ kvs, H d = some (.dT kvs) ∧ kvs.map (·.1) = L.map keyI
theorem KD.ke {H H' : Hp} {d : Addr} {L : List (List Int)} (x : KD H d L) (k : Ke H H') : KD H' d L := by
  obtain ⟨kvs, h, e⟩ := x
  exact ⟨kvs, k.at h, e⟩
theorem kd_len {kvs : List (List Key × V)} {L : List (List Int)} (e : kvs.map (·.1) = L.map keyI) : kvs.length = L.length := by
  have := congrArg List.length e
  simpa using this
/-- whether a key is there -/
theorem kd_val {kvs : List (List Key × V)} {L : List (List Int)} (e : kvs.map (·.1) = L.map keyI) (x : List Int) : (valV kvs (keyI x)).isSome = decide (x ∈ L) := by
  have h : (valV kvs (keyI x)).isSome = true ↔ x ∈ L := by
    unfold valV
    rw [Option.isSome_map, List.find?_isSome]
    constructor
    · rintro ⟨p, hp, hq⟩
      have : keyI x ∈ kvs.map (·.1) := by rw [← of_decide_eq_true hq]; exact List.mem_map_of_mem hp
      rw [e] at this
      obtain ⟨y, hy, e2⟩ := List.mem_map.mp this
      rw [← keyI_inj e2]; exact hy
    · intro h
      have : keyI x ∈ kvs.map (·.1) := by rw [e]; exact List.mem_map_of_mem h
      obtain ⟨p, hp, hq⟩ := List.mem_map.mp this
      exact ⟨p, hp, decide_eq_true hq⟩
  cases c : (valV kvs (keyI x)).isSome with
  | true => rw [decide_eq_true (h.mp c)]
  | false => rw [decide_eq_false (fun z => by rw [h.mpr z] at c; cases c)]
theorem kd_put {kvs : List (List Key × V)} {L : List (List Int)} {x : List Int} {v : V} (e : kvs.map (·.1) = L.map keyI) (h : x ∉ L) : (putK kvs (keyI x) v).map (·.1) = (L ++ [x]).map keyI := by
  have := keys_put keyI (fun _ _ z => keyI_inj z) (g := x) (v := v) e
  unfold addk at this
  rw [if_neg h] at this
  exact this
end Fd
set_option Elab.async false
set_option linter.all false
set_option maxRecDepth 100000
set_option maxHeartbeats 4000000
namespace Fd
open PySem PySem.Spec PyProof.Rows L2 RZ
def sp_first (C CR : Addr) : Sp := fun xs H Q _ => ∃ p o ks, xs = [.ref p] ∧ TwAt C CR H p o ks ∧ ∀ d H' L, Ke H H' → KD (Nw H H') d L → IsLev o ks 0 L → Q (.ref d) H'
theorem updN {H : Hp} {a b : Addr} {o : HO} (e : upd H a o b = none) : H b = none := by
  unfold upd at e
  split at e
  · cases e
  · exact e
/-- the heap while a level is made -/
structure MidL (o : Ofc) (ks : List (List Int)) (fd wl : Addr) (H0 : Hp) (L : List (List Int)) (H : Hp) : Prop where
  kk : Ks (fun a => a = fd ∨ a = wl) H0 H
  fo : KD H fd L
  wa : LL TI H (.ref wl) L
  nd : L.Nodup
  pn : ∀ x ∈ L, Pn o ks 0 x
  z : [0, 0] ∈ L
theorem MidL.ke {o : Ofc} {ks : List (List Int)} {fd wl : Addr} {H0 H H' : Hp} {L : List (List Int)} (x : MidL o ks fd wl H0 L H) (k : Ke H H') : MidL o ks fd wl H0 L H' := ⟨x.kk.trans k.ks, x.fo.ke k, LL.sto TI.stb.sto _ _ _ _ k x.wa, x.nd, x.pn, x.z⟩
theorem MidL.add {o : Ofc} {ks : List (List Int)} {fd wl : Addr} {H0 H : Hp} {L : List (List Int)} {x : List Int} {v q : V} {kvs : List (List Key × V)} {ws : List V} (m : MidL o ks fd wl H0 L H) (n : fd ≠ wl) (hx : x ∉ L) (hp : Pn o ks 0 x) (hf : H fd = some (.dT kvs)) (e : kvs.map (·.1) = L.map keyI) (hw : H wl = some (.lst ws)) (pw : Paired (TI H) ws L) (hq : TI H q x) :
    MidL o ks fd wl H0 (L ++ [x]) (upd (upd H fd (.dT (putK kvs (keyI x) v))) wl (.lst (ws ++ [q]))) := by
  have tx : Tx H (upd (upd H fd (.dT (putK kvs (keyI x) v))) wl (.lst (ws ++ [q]))) := ⟨fun a xs h => by
    rw [upd_ne (fun z => by rw [z, hw] at h; cases h), upd_ne (fun z => by rw [z, hf] at h; cases h)]; exact h⟩
  refine ⟨(m.kk.mut (.inl rfl) (fun ys z => by rw [hf] at z; cases z)).mut (.inr rfl) (fun ys z => by rw [upd_ne n.symm, hw] at z; cases z), ⟨_, by rw [upd_ne n]; exact upd_same, kd_put e hx⟩, ⟨wl, _, rfl, upd_same, papp (pimp (fun v x r => TI.stb _ _ v x tx r) pw) (.cons (TI.stb _ _ _ _ tx hq) .nil)⟩, L2.nd_snoc m.nd hx, fun y hy => ?_, List.mem_append_left _ m.z⟩
  rcases List.mem_append.mp hy with z | z
  · exact m.pn y z
  · rw [List.mem_singleton.mp z]; exact hp
/-- how far a counter is from a bound -/
def far (b i : Nat) (σ : L2.St) : Nat := match σ[i]? with | some (some (L2.V.int n)) => b - n.toNat | _ => 0
section
variable {P : Program} {w : World} {K : PySem.W.Frag} {mg : Str → Option Value} {base : Heap} (T : Txt K mg)
include T
theorem ok_first_level : FnOk P w K mg base CX0 2 T.a_first_level T.d_first_level P_first_level (sp_first T.a_Twins T.a_Reader) := by
  refine T.F_first_level.ok sc_first_level (fun vs H Q E h => ?_) (fun cdv A outer s H vs Q E hr h => ?_)
  · obtain ⟨p, o, ks, rfl, _⟩ := h; rfl
  · obtain ⟨p, o, ks, rfl, tw, k⟩ := h
    have hu := hu_of hr
    have ki := tw.ki
    have cl := tw.cl
    obtain ⟨dx, r, vb, hp, _, _⟩ := tw.ex
    refine ⟨_, (pss_cons (ps_set (i := 1) sc_first_level.nd rfl (Or.inl rfl) (pe_dispT hu (pe_tup (pa_cons pe_int (pa_cons pe_int pa_nil))) pe_non))
  (pss_cons (ps_set (i := 2) sc_first_level.nd rfl (Or.inl rfl) (pe_lst (pa_cons (pe_tup (pa_cons pe_int (pa_cons pe_int pa_nil))) pa_nil)))
  (pss_cons (ps_set (i := 3) sc_first_level.nd rfl (Or.inl rfl) pe_int)
  (pss_cons (ps_while PassesOwn.never (pt_cmpR op_lt (pv 3) (pe_callB call_len (by rfl) T.n_len (by decide +kernel) (pa_cons (pv 2) pa_nil)) (nomark _)) (pss_cons (ps_for PassesOwn.never rfl (pi_list (pe_meth (pv 0) T.c_Twins T.t_Twins_like_marks (ok_Twins_like_marks T) (hr.mono (by decide)) T.b_Twins_like_marks .nil pass0 (pa_cons (pe_ix ix_list (pv 2) (pv 3) (fun _ _ => rfl)) pa_nil))) (pg_tup rfl (pgs_cons (pg_name (i := 4) sc_first_level.nd rfl (Or.inl rfl)) (pgs_cons (pg_name (i := 5) sc_first_level.nd rfl (Or.inl rfl)) (pgs_cons (pg_name (i := 6) sc_first_level.nd rfl (Or.inl rfl)) pgs_nil)))) (pss_one (ps_if (pt_cmp (pc_dnotin hu (pv 4) (pv 1))) (pss_cons (ps_dput hu (pv 1) (pv 4) (pe_tup (pa_cons (pe_ix ix_list (pv 2) (pv 3) (fun _ _ => rfl)) (pa_cons (pv 5) (pa_cons (pv 6) pa_nil)))) rfl)
  (pss_one (ps_expr (pe_bm PySem.F.plainAttrs_list PySem.F.slot_list_append PySem.F.type_list_append mt_append (pv 2) (pa_cons (pv 4) pa_nil))))) pss_nil)))
  (pss_one (ps_aug (i := 3) sc_first_level.nd rfl (Or.inl rfl) pe_int ip_add))))
  (pss_one (ps_ret (pv 1))))))), ?_⟩
    intro fd hfd
    refine ⟨(by show 2 ≤ sizeLine; decide), fun t0 ht0 => ?_⟩
    have n1 : t0 ≠ fd := fun z => by rw [z, upd_same] at ht0; cases ht0
    refine ⟨by rw [upd_ne n1.symm, upd_same], keyI [0, 0], t0, rfl, by rw [upd_same]; rfl, ?_⟩
    have k1 : Ke H (upd (upd (upd H fd (.dT [])) t0 (.tup [.int 0, .int 0])) fd (.dT [(keyI [0, 0], .non)])) := ((Ke.new hfd).trans (Ke.new ht0)).mutNew hfd
    have h1f : (upd (upd (upd H fd (.dT [])) t0 (.tup [.int 0, .int 0])) fd (.dT [(keyI [0, 0], .non)])) fd = some (.dT [(keyI [0, 0], .non)]) := upd_same
    generalize upd (upd (upd H fd (.dT [])) t0 (.tup [.int 0, .int 0])) fd (.dT [(keyI [0, 0], .non)]) = H1 at k1 h1f ⊢
    refine ⟨(by show 2 ≤ sizeLine; decide), fun t1 ht1 => ⟨(by show 1 ≤ sizeLine; decide), fun wl hwl => ?_⟩⟩
    have hwl1 : H1 wl = none := updN hwl
    have k2 : Ke H1 (upd (upd H1 t1 (.tup [.int 0, .int 0])) wl (.lst [.ref t1])) := (Ke.new ht1).trans (Ke.new hwl)
    have h2t : (upd (upd H1 t1 (.tup [.int 0, .int 0])) wl (.lst [.ref t1])) t1 = some (.tup [.int 0, .int 0]) := (Ke.new hwl).at upd_same
    have h2w : (upd (upd H1 t1 (.tup [.int 0, .int 0])) wl (.lst [.ref t1])) wl = some (.lst [.ref t1]) := upd_same
    generalize upd (upd H1 t1 (.tup [.int 0, .int 0])) wl (.lst [.ref t1]) = H2 at k2 h2t h2w ⊢
    have k02 : Ke H H2 := k1.trans k2
    have hwl0 : H wl = none := k1.free hwl1
    have nfw : fd ≠ wl := ne_of_none h1f hwl1
    have nS : ∀ a, (a = fd ∨ a = wl) → H a = none := by
      rintro a (rfl | rfl)
      · exact hfd
      · exact hwl0
    refine while_by (fun σ H' => ∃ (n : Nat) (L : List (List Int)), (∃ s4 s5 s6, σ = [some (.ref p), some (.ref fd), some (.ref wl), some (.int n), s4, s5, s6]) ∧ n ≤ L.length ∧ MidL o ks fd wl H2 L H' ∧ ∀ m x, m < n → L[m]? = some x → ∀ y, NS o ks x y → y ∈ L)
      (fun σ H' => far 4000 3 σ) ?_ ?_ ?_
    · refine ⟨0, [[0, 0]], ⟨_, _, _, rfl⟩, by simp, ⟨.refl, ⟨_, k2.at h1f, rfl⟩, ⟨wl, _, rfl, h2w, .cons ⟨t1, rfl, h2t⟩ .nil⟩, by simp, fun x hx => ?_, by simp⟩, fun m x hm => by omega⟩
      rw [List.mem_singleton.mp hx]
      exact ⟨0, 0, [0], [0], rfl, ki.hd, ki.hd, Lv1.z⟩
    · rintro σ H3 ⟨n, L, ⟨s4, s5, s6, rfl⟩, hn, m, hcl⟩
      obtain ⟨wl', ws, ewl, hw3, pw⟩ := m.wa
      cases ewl
      have lw := plen pw
      have lL := len_pn ki cl m.nd m.pn
      refine ⟨_, rfl, _, rfl, .ref wl, ws.length, rfl, .inl ⟨_, SqL.of hw3, rfl⟩, _, _, rfl, rfl, _, rfl, ite2 (fun c => ?_) (fun c => ?_)⟩
      · have hlt : n < L.length := by have := of_decide_eq_true c; omega
        obtain ⟨x, hx⟩ : ∃ x, L[n]? = some x := ⟨_, List.getElem?_eq_getElem hlt⟩
        have hxm := List.mem_of_getElem? hx
        obtain ⟨xv, hxv, rx⟩ := pget pw hx
        obtain ⟨i, j, si, sj, rfl, hi, hj, lv⟩ := m.pn x hxm
        have kk3 : Ke H H3 := Ke.then k02 m.kk nS
        refine ⟨_, rfl, p, dx, _, rfl, kk3.at hp, (by rfl), _, rfl, _, rfl, wl, ws, (n : Int), xv, rfl, rfl, SqL.of hw3, atI_nat hxv rfl, p, o, ks, xv, si, sj, i, j, rfl, tw.ke kk3, rx, hi, hj, fun v' H4 Lt k4 hLt mLt lLt => ?_⟩
        obtain ⟨lt, lvs, rfl, hlt4, pt⟩ := hLt
        obtain ⟨nlt, hlt4⟩ := Hd.at hlt4
        have m4 := m.ke k4
        obtain ⟨kv3, hf3, _⟩ := m.fo
        have nlf : lt ≠ fd := fun z => nlt (by rw [z]; exact .dT hf3)
        have nlw : lt ≠ wl := fun z => nlt (by rw [z]; exact .lst hw3)
        refine ⟨lt, rfl, ⟨_, SqL.of hlt4⟩, fo_L (R := TR3 (Nw H3 H4)) (fun dn σ H' => (∃ s4 s5 s6, σ = [some (.ref p), some (.ref fd), some (.ref wl), some (.int n), s4, s5, s6]) ∧ Ks (fun a => a = fd ∨ a = wl) H4 H' ∧ ∃ r : List (List Int), MidL o ks fd wl H2 (L ++ r) H' ∧ ∀ t ∈ dn, t.1 ∈ L ++ r) pt
          ⟨⟨_, _, _, rfl⟩, .refl, [], by rw [List.append_nil]; exact m4, (fun t ht => by cases ht)⟩ (fun dn σ H' q => q.2.1.keep _ _ (fun z => z.elim nlf nlw) hlt4) ?_ ?_⟩
        · rintro dn t r0 v σ H5 e ⟨ta, u1, w1, x1, rfl, hta, ⟨qa, rfl, hqa⟩, hw1, hx1⟩ ⟨⟨s4, s5, s6, rfl⟩, k5, r, m5, hin⟩
          have tx5 : Tx (Nw H3 H4) H5 := (Le.ke Nw.le).tx.trans k5.tx
          have hqa5 := tx5.tup _ _ hqa
          have hLm : LikeN o ks si sj t := (mLt t).mp (by rw [e]; simp)
          have hns : NS o ks [(i : Int), (j : Int)] t.1 := ⟨i, j, si, sj, t, rfl, hi, hj, hLm, rfl⟩
          have hpn := (m.pn _ hxm).ns ki cl hns
          obtain ⟨kvs, hf5, e5⟩ := m5.fo
          obtain ⟨wl', ws5, ewl, hw5, pw5⟩ := m5.wa
          cases ewl
          have lk := kd_len e5
          have l5 := len_pn ki cl m5.nd m5.pn
          have lw5 := plen pw5
          refine ⟨ta, _, rfl, SqT.of (tx5.tup _ _ hta), rfl, _, _, rfl, _, _, rfl, _, _, rfl, rfl, ?_⟩
          refine ⟨_, rfl, _, rfl, fd, _, rfl, DGet.t (k := keyI t.1) hf5 (by rw [keyI_kV]; exact hqa5), _, rfl, ?_⟩
          rw [kd_val e5]
          by_cases c : t.1 ∈ L ++ r
          · refine iteF' (by simp [c]) (stepT ⟨⟨_, _, _, rfl⟩, k5, r, m5, fun t' ht' => ?_⟩)
            rcases List.mem_append.mp ht' with z | z
            · exact hin t' z
            · rw [List.mem_singleton.mp z]; exact c
          · have hx5 : (L ++ r)[n]? = some [(i : Int), (j : Int)] := by rw [List.getElem?_append_left hlt]; exact hx
            obtain ⟨xv5, hxv5, _⟩ := pget pw5 hx5
            refine iteT' (by simp [c]) ?_
            refine ⟨_, rfl, _, rfl, wl, ws5, (n : Int), xv5, rfl, rfl, SqL.of hw5, atI_nat hxv5 rfl, _, rfl, _, rfl, (by show 3 ≤ sizeLine; decide), fun t2 ht2 => ?_⟩
            have k6 : Ke H5 (upd H5 t2 (.tup [xv5, w1, x1])) := Ke.new ht2
            generalize upd H5 t2 (.tup [xv5, w1, x1]) = H6 at k6 ⊢
            have m6 := m5.ke k6
            have hf6 := k6.at hf5
            have hw6 := k6.at hw5
            have pw6 := pimp (fun v x r => TI.stb _ _ v x k6.tx r) pw5
            have hqa6 := k6.at hqa5
            refine ⟨_, rfl, _, rfl, fd, _, rfl, DPut.t (k := keyI t.1) hf6 (by rw [keyI_kV]; exact hqa6) (by rw [sizeLine_eq]; omega), ?_⟩
            refine ⟨_, rfl, .inl ⟨rfl, _, SqL.of (by rw [upd_ne nfw.symm]; exact hw6)⟩, _, rfl, wl, ws5, .ref qa, rfl, rfl, by rw [upd_ne nfw.symm]; exact hw6, by rw [sizeLine_eq]; omega, ⟨_, _, _, rfl⟩, ?_, r ++ [t.1], ?_, fun t' ht' => ?_⟩
            · exact ((k5.trans k6.ks).mut (.inl rfl) (fun ys z => by rw [hf6] at z; cases z)).mut (.inr rfl) (fun ys z => by rw [upd_ne nfw.symm, hw6] at z; cases z)
            · rw [← List.append_assoc]
              exact m6.add nfw c hpn hf6 e5 hw6 pw6 ⟨qa, rfl, hqa6⟩
            · rw [← List.append_assoc]
              rcases List.mem_append.mp ht' with z | z
              · exact List.mem_append_left _ (hin t' z)
              · rw [List.mem_singleton.mp z]; simp
        · rintro σ H5 ⟨⟨s4, s5, s6, rfl⟩, k5, r, m5, hin⟩
          refine ⟨_, rfl, _, _, rfl, rfl, ⟨n + 1, L ++ r, ⟨_, _, _, rfl⟩, by rw [List.length_append]; omega, m5, fun a x ha hx' y hns => ?_⟩, ?_⟩
          · by_cases ea : a = n
            · subst ea
              rw [List.getElem?_append_left hlt, hx] at hx'
              have e1 := Option.some.inj hx'
              subst e1
              obtain ⟨i', j', si', sj', t, e', g1, g2, hL, ey⟩ := hns
              obtain ⟨rfl, rfl⟩ := nat_pair e'
              rw [hi] at g1; cases g1
              rw [hj] at g2; cases g2
              rw [ey]
              exact hin t ((mLt t).mpr hL)
            · rw [List.getElem?_append_left (by omega)] at hx'
              exact List.mem_append_left _ (hcl a x (by omega) hx' y hns)
          · show 4000 - ((n : Int) + 1).toNat < 4000 - (n : Int).toNat
            omega
      · have en : n = L.length := by
          have : ¬ ((n : Int) < (ws.length : Nat)) := fun z => c (decide_eq_true z)
          omega
        have kk3 : Ke H H3 := Ke.then k02 m.kk nS
        obtain ⟨kvs, hf3, e3⟩ := m.fo
        refine ⟨_, rfl, k fd H3 L kk3 ⟨kvs, Nw.new hfd hf3, e3⟩ (isLev_zero ki cl m.nd m.z m.pn fun x hx y hns => ?_)⟩
        obtain ⟨a, ha⟩ := List.mem_iff_getElem?.mp hx
        exact hcl a x (by have := (List.getElem?_eq_some_iff.mp ha).1; omega) ha y hns
    · intro σ H' Q Q' hq h
      obtain ⟨v, e1, v', e2, x, n, e3, l1, i, j, e5, e6, b, e7, q⟩ := h
      exact ⟨v, e1, v', e2, x, n, e3, l1, i, j, e5, e6, b, e7, hq _ _ q⟩
end
end Fd
set_option Elab.async false
set_option linter.all false
set_option maxRecDepth 100000
set_option maxHeartbeats 4000000
namespace Fd
open PySem PySem.Spec PyProof.Rows L2 RZ
def sp_next (C CR : Addr) : Sp := fun xs H Q _ => ∃ p o ks d n L, xs = [.ref p, .ref d] ∧ TwAt C CR H p o ks ∧ KD H d L ∧ IsLev o ks n L ∧ ∀ d' H' M, Ke H H' → KD (Nw H H') d' M → IsLev o ks (n + 1) M → Q (.ref d') H'
def sp_alike : Sp := fun xs H Q _ => ∃ d e L M, xs = [.ref d, .ref e] ∧ KD H d L ∧ KD H e M ∧ Q (.bl (decide (L.length = M.length))) H
def sp_bad_of : Sp := fun xs H Q _ => ∃ d e L B, xs = [.ref d, .ref e] ∧ d ≠ e ∧ KD H d L ∧ KD H e B ∧ (∀ x ∈ L, x ≠ []) ∧ L.length ≤ 4000000 ∧ ∀ v' H', Ke H H' → LL TI H' v' (sortT (L.filter fun x => decide (x ∈ B))) → Q v' H'
def sp_begin : Sp := fun xs H Q _ => ∃ v i j, xs = [v] ∧ TI H v [i, j] ∧ ∀ v' H', Ke H H' → TI H' v' [i, j, i] → Q v' H'
theorem Pn.len {o : Ofc} {ks : List (List Int)} {n : Nat} {x : List Int} (h : Pn o ks n x) : x ≠ [] := by
  obtain ⟨i, j, _, _, rfl, _⟩ := h
  simp
section
variable {P : Program} {w : World} {K : PySem.W.Frag} {mg : Str → Option Value} {base : Heap} (T : Txt K mg)
include T
theorem ok_next_level : FnOk P w K mg base CX0 4 T.a_next_level T.d_next_level P_next_level (sp_next T.a_Twins T.a_Reader) := by
  refine T.F_next_level.ok sc_next_level (fun vs H Q E h => ?_) (fun cdv A outer s H vs Q E hr h => ?_)
  · obtain ⟨p, o, ks, d, n, L, rfl, _⟩ := h; rfl
  · obtain ⟨p, o, ks, d, n, L, rfl, tw, ⟨kvs, hd, ek⟩, lev, k⟩ := h
    have hu := hu_of hr
    have ki := tw.ki
    have cl := tw.cl
    obtain ⟨dx, r, vb, hp, _, _⟩ := tw.ex
    refine ⟨_, (pss_cons (ps_set (i := 2) sc_next_level.nd rfl (Or.inl rfl) pe_dnewT)
  (pss_cons (ps_for PassesOwn.never rfl (pi_list (pe_callB (cr_sortedD hr) (by rfl) T.n_sorted (by decide +kernel) (pa_cons (pe_callTy (call_list_dT rfl) (by rfl) T.n_list (by decide +kernel) (pa_cons (pv 1) pa_nil)) pa_nil))) (pg_name (i := 3) sc_next_level.nd rfl (Or.inl rfl)) (pss_one (ps_for PassesOwn.never rfl (pi_list (pe_meth (pv 0) T.c_Twins T.t_Twins_like_steps (ok_Twins_like_steps T) (hr.mono (by decide)) T.b_Twins_like_steps .nil pass0 (pa_cons (pv 3) pa_nil))) (pg_tup rfl (pgs_cons (pg_name (i := 4) sc_next_level.nd rfl (Or.inl rfl)) (pgs_cons (pg_name (i := 5) sc_next_level.nd rfl (Or.inl rfl)) (pgs_cons (pg_name (i := 6) sc_next_level.nd rfl (Or.inl rfl)) pgs_nil)))) (pss_one (ps_if (pt_cmp (pc_dnotin hu (pv 4) (pv 2))) (pss_one (ps_dput hu (pv 2) (pv 4) (pe_tup (pa_cons (pv 3) (pa_cons (pv 5) (pa_cons (pv 6) pa_nil)))) rfl)) pss_nil)))))
  (pss_one (ps_ret (pv 2))))), ?_⟩
    intro fd hfd
    have k1 : Ke H (upd H fd (.dT [])) := Ke.new hfd
    have h1f : (upd H fd (.dT [])) fd = some (.dT []) := upd_same
    generalize upd H fd (.dT []) = H1 at k1 h1f ⊢
    refine ⟨_, rfl, d, kvs, rfl, .inl (k1.at hd), fun q bs hq ik => ?_⟩
    have pk := isKeys_TI ik ek
    have k2 : Ke H1 (upd H1 q (.lst (bs.map V.ref))) := Ke.new hq
    have h2q : (upd H1 q (.lst (bs.map V.ref))) q = some (.lst (bs.map V.ref)) := upd_same
    generalize upd H1 q (.lst (bs.map V.ref)) = H2 at k2 h2q ⊢
    refine ⟨q, _, List Int, TI H2, tI, L, rfl, SqL.of h2q, pimp (fun v x r => TI.stb _ _ v x k2.tx r) pk, fun v x r => TI.enc K _ v x r, ok_T (fun m hm => ((lev.2 m).mp hm).len), fun q2 out hq2 po => ?_⟩
    have k3 : Ke H2 (upd H2 q2 (.lst out)) := Ke.new hq2
    have h3q : (upd H2 q2 (.lst out)) q2 = some (.lst out) := upd_same
    generalize upd H2 q2 (.lst out) = H3 at k3 h3q ⊢
    have k13 := k2.trans k3
    have n2f : q2 ≠ fd := (ne_of_none (k2.at h1f) hq2).symm
    have h3f := k13.at h1f
    have nS : ∀ a, a = fd → H a = none := by rintro a rfl; exact hfd
    have pos : Paired (TI H2) out (sortT L) := po
    refine ⟨q2, rfl, ⟨_, SqL.of h3q⟩, fo_L (R := TI H2) (fun dn σ H' => (∃ s3 s4 s5 s6, σ = [some (.ref p), some (.ref d), some (.ref fd), s3, s4, s5, s6]) ∧ Ks (fun a => a = fd) H3 H' ∧ ∃ M : List (List Int), KD H' fd M ∧ M.Nodup ∧ ∀ y, y ∈ M ↔ ∃ x ∈ dn, NT o ks x y) pos
      ⟨⟨_, _, _, _, rfl⟩, .refl, [], ⟨_, h3f, rfl⟩, .nil, fun y => by simp⟩ (fun dn σ H' g => g.2.1.keep _ _ n2f h3q) ?_ ?_⟩
    · rintro dn x r0 v σ H4 e ⟨xa, rfl, hxa⟩ ⟨⟨s3, s4, s5, s6, rfl⟩, k4, M, fm, nd, hM⟩
      have hxL : x ∈ L := mem_sortT.mp (by rw [e]; simp)
      have sub : ∀ y ∈ dn, y ∈ L := fun y hy => mem_sortT.mp (by rw [e]; simp [hy])
      have hpx := (lev.2 x).mp hxL
      obtain ⟨i, j, si, sj, rfl, hi, hj, lv⟩ := id hpx
      have kk4 : Ke H H4 := Ke.then (k1.trans k13) k4 nS
      have tx24 : Tx H2 H4 := k3.tx.trans k4.tx
      have hxa4 := tx24.tup _ _ hxa
      refine ⟨_, rfl, p, dx, _, rfl, kk4.at hp, (by rfl), _, rfl, p, o, ks, .ref xa, si, sj, i, j, rfl, tw.ke kk4, ⟨xa, rfl, hxa4⟩, hi, hj, fun v' H5 Lt k5 hLt mLt lLt => ?_⟩
      obtain ⟨lt, lvs, rfl, hlt5, pt⟩ := hLt
      obtain ⟨nlt, hlt5⟩ := Hd.at hlt5
      obtain ⟨kv4, hf4, _⟩ := id fm
      have nlf : lt ≠ fd := fun z => nlt (by rw [z]; exact .dT hf4)
      refine ⟨lt, rfl, ⟨_, SqL.of hlt5⟩, fo_L (R := TR3 (Nw H4 H5)) (fun dm σ H' => (∃ s4 s5 s6, σ = [some (.ref p), some (.ref d), some (.ref fd), some (.ref xa), s4, s5, s6]) ∧ Ks (fun a => a = fd) H5 H' ∧ ∃ M : List (List Int), KD H' fd M ∧ M.Nodup ∧ ∀ y, y ∈ M ↔ (∃ x ∈ dn, NT o ks x y) ∨ ∃ t ∈ dm, y = t.1) pt
        ⟨⟨_, _, _, rfl⟩, .refl, M, fm.ke k5, nd, fun y => by rw [hM]; simp⟩ (fun dn σ H' g => g.2.1.keep _ _ nlf hlt5) ?_ ?_⟩
      · rintro dm t r1 v σ H6 e2 ⟨ta, u1, w1, x1, rfl, hta, ⟨qa, rfl, hqa⟩, hw1, hx1⟩ ⟨⟨s4, s5, s6, rfl⟩, k6, M', ⟨kv6, hf6, e6⟩, nd', hM'⟩
        have tx6 : Tx (Nw H4 H5) H6 := (Le.ke Nw.le).tx.trans k6.tx
        have hqa6 := tx6.tup _ _ hqa
        have lk := kd_len e6
        have hall : ∀ y ∈ M', Pn o ks (n + 1) y := fun y hy => by
          rcases (hM' y).mp hy with ⟨x', hx', hn⟩ | ⟨t', ht', ey⟩
          · exact ((lev.2 x').mp (sub x' hx')).nt ki cl hn
          · rw [ey]; exact hpx.nt ki cl ⟨i, j, si, sj, t', rfl, hi, hj, (mLt t').mp (by rw [e2]; simp [ht']), rfl⟩
        have l6 := len_pn ki cl nd' hall
        refine ⟨ta, _, rfl, SqT.of (tx6.tup _ _ hta), rfl, _, _, rfl, _, _, rfl, _, _, rfl, rfl, ?_⟩
        refine ⟨_, rfl, _, rfl, fd, _, rfl, DGet.t (k := keyI t.1) hf6 (by rw [keyI_kV]; exact hqa6), _, rfl, ?_⟩
        rw [kd_val e6]
        by_cases c : t.1 ∈ M'
        · refine iteF' (by simp [c]) (stepT ⟨⟨_, _, _, rfl⟩, k6, M', ⟨kv6, hf6, e6⟩, nd', fun y => ?_⟩)
          rw [hM']
          constructor
          · rintro (z | ⟨t', ht', ey⟩)
            · exact .inl z
            · exact .inr ⟨t', by simp [ht'], ey⟩
          · rintro (z | ⟨t', ht', ey⟩)
            · exact .inl z
            · rcases List.mem_append.mp ht' with z | z
              · exact .inr ⟨t', z, ey⟩
              · rw [List.mem_singleton.mp z] at ey
                rw [ey]
                exact (hM' _).mp c
        · refine iteT' (by simp [c]) ?_
          refine ⟨_, rfl, _, rfl, _, rfl, (by show 3 ≤ sizeLine; decide), fun t2 ht2 => ?_⟩
          have k7 : Ke H6 (upd H6 t2 (.tup [.ref xa, w1, x1])) := Ke.new ht2
          generalize upd H6 t2 (.tup [.ref xa, w1, x1]) = H7 at k7 ⊢
          have hf7 := k7.at hf6
          refine ⟨_, rfl, _, rfl, fd, _, rfl, DPut.t (k := keyI t.1) hf7 (by rw [keyI_kV]; exact k7.at hqa6) (by rw [sizeLine_eq]; omega), ⟨_, _, _, rfl⟩, (k6.trans k7.ks).mut rfl (fun ys z => by rw [hf7] at z; cases z), M' ++ [t.1], ⟨_, upd_same, kd_put e6 c⟩, L2.nd_snoc nd' c, fun y => ?_⟩
          rw [List.mem_append, hM', List.mem_singleton]
          constructor
          · rintro ((z | ⟨t', ht', ey⟩) | z)
            · exact .inl z
            · exact .inr ⟨t', by simp [ht'], ey⟩
            · exact .inr ⟨t, by simp, z⟩
          · rintro (z | ⟨t', ht', ey⟩)
            · exact .inl (.inl z)
            · rcases List.mem_append.mp ht' with z | z
              · exact .inl (.inr ⟨t', z, ey⟩)
              · rw [List.mem_singleton.mp z] at ey; exact .inr ey
      · rintro σ H6 ⟨⟨s4, s5, s6, rfl⟩, k6, M', fm', nd', hM'⟩
        have k46 : Ks (fun a => a = fd) H3 H6 := (k4.trans k5.ks).trans k6
        refine ⟨⟨_, _, _, _, rfl⟩, k46, M', fm', nd', fun y => ?_⟩
        rw [hM']
        constructor
        · rintro (⟨x', hx', hn⟩ | ⟨t', ht', ey⟩)
          · exact ⟨x', by simp [hx'], hn⟩
          · exact ⟨_, by simp, i, j, si, sj, t', rfl, hi, hj, (mLt t').mp ht', ey⟩
        · rintro ⟨x', hx', hn⟩
          rcases List.mem_append.mp hx' with z | z
          · exact .inl ⟨x', z, hn⟩
          · rw [List.mem_singleton.mp z] at hn
            obtain ⟨i', j', si', sj', t, e', g1, g2, hL, ey⟩ := hn
            obtain ⟨rfl, rfl⟩ := nat_pair e'
            rw [hi] at g1; cases g1
            rw [hj] at g2; cases g2
            exact .inr ⟨t, (mLt t).mpr hL, ey⟩
    · rintro σ H4 ⟨⟨s3, s4, s5, s6, rfl⟩, k4, M, ⟨kv4, hf4, e4⟩, nd, hM⟩
      have kk4 : Ke H H4 := Ke.then (k1.trans k13) k4 nS
      refine ⟨_, rfl, k fd H4 M kk4 ⟨kv4, Nw.new hfd hf4, e4⟩ (isLev_next ki cl lev nd fun y => ?_)⟩
      rw [hM]
      exact ⟨fun ⟨x, hx, hn⟩ => ⟨x, mem_sortT.mp hx, hn⟩, fun ⟨x, hx, hn⟩ => ⟨x, mem_sortT.mpr hx, hn⟩⟩
theorem ok_are_alike : FnOk P w K mg base CX0 1 T.a_are_alike T.d_are_alike P_are_alike sp_alike := by
  refine T.F_are_alike.ok sc_are_alike (fun vs H Q E h => ?_) (fun cdv A outer s H vs Q E hr h => ?_)
  · obtain ⟨d, e, L, M, rfl, _⟩ := h; rfl
  · obtain ⟨d, e, L, M, rfl, ⟨kv, hd, ed⟩, ⟨kw, he, ee⟩, k⟩ := h
    refine ⟨_, (pss_one (ps_ret (pe_cmpR op_eq (pe_callB call_len_dT (by rfl) T.n_len (by decide +kernel) (pa_cons (pv 0) pa_nil)) (pe_callB call_len_dT (by rfl) T.n_len (by decide +kernel) (pa_cons (pv 1) pa_nil)) (nomark _)))), ?_⟩
    refine ⟨_, rfl, d, kv, rfl, hd, _, rfl, e, kw, rfl, he, rfl, ?_⟩
    have e1 : decide (V.int ((kv.length : Nat) : Int) = V.int ((kw.length : Nat) : Int)) = decide (L.length = M.length) := by
      rw [kd_len ed, kd_len ee]
      exact decide_eq_decide.mpr ⟨fun z => by injection z with z; omega, fun z => by rw [z]⟩
    show Q (V.bl (decide (V.int ((kv.length : Nat) : Int) = V.int ((kw.length : Nat) : Int)))) H
    rw [e1]
    exact k
theorem ok_bad_of : FnOk P w K mg base CX0 1 T.a_bad_of T.d_bad_of P_bad_of sp_bad_of := by
  refine T.F_bad_of.ok sc_bad_of (fun vs H Q E h => ?_) (fun cdv A outer s H vs Q E hr h => ?_)
  · obtain ⟨d, e, L, B, rfl, _⟩ := h; rfl
  · obtain ⟨d, e, L, B, rfl, nde, ⟨kv, hd, ed⟩, ⟨kw, he, ee⟩, ne, lL, k⟩ := h
    have hu := hu_of hr
    refine ⟨_, (pss_one (ps_ret (pe_callB (cr_sortedD hr) (by rfl) T.n_sorted (by decide +kernel) (pa_cons (pe_lock (pe_lc (own := [("pair", 2)]) rfl sc_bad_of.nd (pi_keys (pv 0)) (blkOk_by (own := [("pair", 2)]) (N := N_bad_of) (sc := defScope s_bad_of) (by decide +kernel)) (fun _ _ _ _ _ => (pg_name (i := 2) sc_bad_of.nd rfl (Or.inl rfl))) (fun _ _ _ _ _ => pts_one (pt_cmp (pc_din hu (pv 2) (pv 1)))) (fun _ _ _ _ _ => (pv 2)))) pa_nil)))), ?_⟩
    refine ⟨d, _, hd, True.intro, fun od => ?_⟩
    have h1d : (upd H d (.frz od (.dT kv))) d = some (.frz od (.dT kv)) := upd_same
    have k1 : Ks (fun a => a = d) H (upd H d (.frz od (.dT kv))) := lock_ks hd (fun xs z => by cases z)
    generalize upd H d (.frz od (.dT kv)) = H1 at k1 h1d ⊢
    have he1 := k1.keep _ _ (fun z => nde z.symm) he
    refine ⟨_, rfl, d, od, rfl, .inr ⟨kv, h1d, fun D hD => lc_W (R := TI) walk_keysT (TI.stb.sto) L (fun x => decide (x ∈ B)) id hD (by rw [sizeLine_eq]; omega) (kd_len ed).symm (fun H4 k4 => k4.at h1d) (fun i H4 v H5 k4 y => ?_) ?_ ?_⟩⟩
    · obtain ⟨rfl, kk, vv, q, e1, rfl, hq⟩ := y
      have e2 : (kv.map (·.1))[i]? = some kk := by rw [List.getElem?_map, e1]; rfl
      rw [ed, List.getElem?_map] at e2
      cases e3 : L[i]? with
      | none => rw [e3] at e2; cases e2
      | some x =>
        rw [e3] at e2
        have e4 := Option.some.inj e2
        refine ⟨rfl, x, rfl, q, rfl, ?_⟩
        rw [hq, ← e4, keyI_kV]
    · rintro v x H4 hx ⟨q, rfl, hq⟩ k4 nD Z Z' z z'
      refine ⟨rfl, ?_⟩
      refine ⟨_, rfl, _, rfl, e, _, rfl, DGet.t (k := keyI x) (k4.at he1) (by rw [keyI_kV]; exact hq), _, rfl, ?_⟩
      rw [kd_val ee]
      by_cases c : x ∈ B
      · refine iteT' (by simp [c]) ⟨_, rfl, z (decide_eq_true c) _ _ .refl ⟨q, rfl, (Nw.tx .refl).tup _ _ hq⟩⟩
      · exact iteF' (by simp [c]) (z' (decide_eq_false c) _ .refl)
    · intro H4 k4 hl
      rw [List.map_id] at hl
      obtain ⟨D', ws, eD, hDn, pw⟩ := hl
      cases eD
      obtain ⟨_, hDn⟩ := Hd.at hDn
      have kk : Ke H (upd H4 d (.dT kv)) := lock_ke hd (fun xs z => by cases z) (k1.trans k4.ks)
      have nDd : D ≠ d := fun z => by rw [z, k4.at h1d] at hDn; cases hDn
      have tx : Tx (Nw H1 H4) (upd H4 d (.dT kv)) := ⟨fun a xs h => by
        have h' := (Hd.at h).2
        rw [upd_ne (fun z => by rw [z, k4.at h1d] at h'; cases h')]; exact h'⟩
      refine ⟨k4.at h1d, nilA ⟨D, ws, List Int, TI (upd H4 d (.dT kv)), tI, _, rfl, SqL.of (by rw [upd_ne nDd]; exact hDn), pimp (fun v x r => TI.stb _ _ v x tx r) pw, fun v x r => TI.enc K _ v x r, ok_T (fun m hm => ne m (List.mem_filter.mp hm).1), fun q2 out hq2 po => ?_⟩⟩
      exact k _ _ (kk.trans (Ke.new hq2)) ⟨q2, out, rfl, upd_same, pimp (fun v x r => TI.stb _ _ v x (Ke.new hq2).tx r) po⟩
theorem ok_begin_triple : FnOk P w K mg base CX0 1 T.a_begin_triple T.d_begin_triple P_begin_triple sp_begin := by
  refine T.F_begin_triple.ok sc_begin_triple (fun vs H Q E h => ?_) (fun cdv A outer s H vs Q E hr h => ?_)
  · obtain ⟨v, i, j, rfl, _⟩ := h; rfl
  · obtain ⟨v, i, j, rfl, ⟨a, rfl, ha⟩, k⟩ := h
    refine ⟨_, (pss_one (ps_ret (pe_tup (pa_cons (pe_ix ix_tup (pv 0) pe_int (fun _ _ => rfl)) (pa_cons (pe_ix ix_tup (pv 0) pe_int (fun _ _ => rfl)) (pa_cons (pe_ix ix_tup (pv 0) pe_int (fun _ _ => rfl)) pa_nil)))))), ?_⟩
    exact ⟨_, rfl, a, _, 0, _, rfl, rfl, SqT.of ha, rfl, _, rfl, a, _, 1, _, rfl, rfl, SqT.of ha, rfl, _, rfl, a, _, 0, _, rfl, rfl, SqT.of ha, rfl, (by show 3 ≤ sizeLine; decide), fun t ht => k _ _ (Ke.new ht) ⟨t, rfl, upd_same⟩⟩
end
end Fd
set_option Elab.async false
set_option linter.all false
set_option maxRecDepth 100000
set_option maxHeartbeats 4000000
namespace Fd
open PySem PySem.Spec PyProof.Rows L2 RZ
/-- a triple of numbers -/
def TrN (ks : List (List Int)) (x : List Int) (i j : Nat) (c : Int) (si sj : List Int) : Prop := x = [(i : Int), (j : Int), c] ∧ ks[i]? = some si ∧ ks[j]? = some sj ∧ NumOk ks c
/-- what comes next of a triple -/
def WS (o : Ofc) (ks : List (List Int)) (x y : List Int) : Prop := ∃ i j c si sj t, TrN ks x i j c si sj ∧ WayN o ks si sj c t ∧ y = t.1
/-- the last marks against a triple -/
def lastsA (o : Ofc) (ks : List (List Int)) (i j : Nat) (c : Int) : List Int := ((lastsN o ks i).filter fun m => decide (m ∈ lastsN o ks j)).filter fun m => decide (m ∉ lastsN o ks c)
def sp_goals_on (C CR : Addr) : Sp := fun xs H Q _ => ∃ p o ks u x i j c si sj, xs = [.ref p, u] ∧ TwAt C CR H p o ks ∧ TI H u x ∧ TrN ks x i j c si sj ∧ ∀ v' H' M, Ke H H' → LL TI (Nw H H') v' M → M.Nodup → M.length ≤ 4000000 → (∀ y, y ∈ M ↔ WS o ks x y) → Q v' H'
def sp_against (C CR : Addr) : Sp := fun xs H Q _ => ∃ p o ks u x i j c si sj, xs = [.ref p, u] ∧ TwAt C CR H p o ks ∧ TI H u x ∧ TrN ks x i j c si sj ∧ ∀ v' H', Ke H H' → LL II H' v' (lastsA o ks i j c) → Q v' H'
theorem trN_uniq {ks : List (List Int)} {x : List Int} {i j i' j' : Nat} {c c' : Int} {si sj si' sj' : List Int} (h : TrN ks x i j c si sj) (h' : TrN ks x i' j' c' si' sj') : i = i' ∧ j = j' ∧ c = c' ∧ si = si' ∧ sj = sj' := by
  obtain ⟨e, h1, h2, _⟩ := h
  obtain ⟨e', g1, g2, _⟩ := h'
  have e := e.symm.trans e'
  injection e with e1 e2
  injection e2 with e2 e3
  injection e3 with e3 _
  have e1 : i = i' := by omega
  have e2 : j = j' := by omega
  subst e1 e2
  rw [h1] at g1; cases g1
  rw [h2] at g2; cases g2
  exact ⟨rfl, rfl, e3, rfl, rfl⟩
theorem len_lastsM {o : Ofc} (wf : Wf o) (s : List Int) : (lastsM o s).length ≤ 63 := by
  refine short_of (n := 63) (List.Pairwise.imp (fun {a b} h => by omega) (sorted_usort _)) fun z hz => ?_
  obtain ⟨x, _, q⟩ := List.mem_flatMap.mp (mem_usort.mp hz)
  obtain ⟨r, hr, hz⟩ := at0_mem q
  exact (wf.ck r hr).2 z hz
theorem len_lastsN {o : Ofc} {ks : List (List Int)} (wf : Wf o) (i : Int) : (lastsN o ks i).length ≤ 63 := by
  unfold lastsN
  split
  · simp
  · exact len_lastsM wf _
section
variable {P : Program} {w : World} {K : PySem.W.Frag} {mg : Str → Option Value} {base : Heap} (T : Txt K mg)
include T
theorem ok_goals_on : FnOk P w K mg base CX0 4 T.a_goals_on T.d_goals_on P_goals_on (sp_goals_on T.a_Twins T.a_Reader) := by
  refine T.F_goals_on.ok sc_goals_on (fun vs H Q E h => ?_) (fun cdv A outer s H vs Q E hr h => ?_)
  · obtain ⟨p, o, ks, u, x, i, j, c, si, sj, rfl, _⟩ := h; rfl
  · obtain ⟨p, o, ks, u, x, i, j, c, si, sj, rfl, tw, hx, tn, k⟩ := h
    have hu := hu_of hr
    obtain ⟨rfl, hi, hj, nc⟩ := id tn
    refine ⟨_, (pss_cons (ps_set (i := 2) sc_goals_on.nd rfl (Or.inl rfl) pe_dnewT)
  (pss_cons (ps_for PassesOwn.never rfl (pi_list (pe_call (ok_ways_on T) (hr.mono (by decide)) rfl T.g_ways_on T.k_ways_on T.b_ways_on .nil pass0 (pa_cons (pv 0) (pa_cons (pv 1) pa_nil)))) (pg_tup rfl (pgs_cons (pg_name (i := 3) sc_goals_on.nd rfl (Or.inl rfl)) (pgs_cons (pg_name (i := 4) sc_goals_on.nd rfl (Or.inl rfl)) (pgs_cons (pg_name (i := 5) sc_goals_on.nd rfl (Or.inl rfl)) pgs_nil)))) (pss_one (ps_dput hu (pv 2) (pv 3) pe_bl rfl)))
  (pss_one (ps_ret (pe_callTy (call_list_dT rfl) (by rfl) T.n_list (by decide +kernel) (pa_cons (pv 2) pa_nil)))))), ?_⟩
    intro fd hfd
    have k1 : Ke H (upd H fd (.dT [])) := Ke.new hfd
    have h1f : (upd H fd (.dT [])) fd = some (.dT []) := upd_same
    generalize upd H fd (.dT []) = H1 at k1 h1f ⊢
    have nS : ∀ a, a = fd → H a = none := by rintro a rfl; exact hfd
    refine ⟨_, rfl, _, rfl, p, o, ks, u, si, sj, c, i, j, rfl, tw.ke k1, TI.stb _ _ _ _ k1.tx hx, hi, hj, nc, fun v' H2 Lt k2 hLt mLt lLt => ?_⟩
    obtain ⟨lt, lvs, rfl, hlt2, pt⟩ := hLt
    obtain ⟨nlt, hlt2⟩ := Hd.at hlt2
    have nlf : lt ≠ fd := fun z => nlt (by rw [z]; exact .dT h1f)
    refine ⟨lt, rfl, ⟨_, SqL.of hlt2⟩, fo_L (R := TR3 (Nw H1 H2)) (fun dm σ H' => (∃ s3 s4 s5, σ = [some (.ref p), some u, some (.ref fd), s3, s4, s5]) ∧ Ks (fun a => a = fd) H2 H' ∧ ∃ M : List (List Int), KD H' fd M ∧ M.Nodup ∧ M.length ≤ dm.length ∧ ∀ y, y ∈ M ↔ ∃ t ∈ dm, y = t.1) pt
      ⟨⟨_, _, _, rfl⟩, .refl, [], ⟨_, k2.at h1f, rfl⟩, .nil, by simp, fun y => by simp⟩ (fun dn σ H' g => g.2.1.keep _ _ nlf hlt2) ?_ ?_⟩
    · rintro dm t r1 v σ H3 e2 ⟨ta, u1, w1, x1, rfl, hta, ⟨qa, rfl, hqa⟩, hw1, hx1⟩ ⟨⟨s3, s4, s5, rfl⟩, k3, M, ⟨kv3, hf3, e3⟩, nd, lM, hM⟩
      have tx3 : Tx (Nw H1 H2) H3 := (Le.ke Nw.le).tx.trans k3.tx
      have hqa3 := tx3.tup _ _ hqa
      have lk := kd_len e3
      have ldm : dm.length < Lt.length := by rw [e2]; simp
      refine ⟨ta, _, rfl, SqT.of (tx3.tup _ _ hta), rfl, _, _, rfl, _, _, rfl, _, _, rfl, rfl, ?_⟩
      refine ⟨_, rfl, _, rfl, fd, _, rfl, DPut.t (k := keyI t.1) hf3 (by rw [keyI_kV]; exact hqa3) (by rw [sizeLine_eq]; omega), ⟨_, _, _, rfl⟩, k3.mut rfl (fun ys z => by rw [hf3] at z; cases z), addk M t.1, ⟨_, upd_same, keys_put keyI (fun _ _ z => keyI_inj z) e3⟩, addk_nodup nd, ?_, fun y => ?_⟩
      · unfold addk
        split
        · rw [List.length_append]; omega
        · rw [List.length_append, List.length_append, List.length_singleton, List.length_singleton]; omega
      · rw [mem_addk, hM]
        constructor
        · rintro (⟨t', ht', ey⟩ | z)
          · exact ⟨t', by simp [ht'], ey⟩
          · exact ⟨t, by simp, z⟩
        · rintro ⟨t', ht', ey⟩
          rcases List.mem_append.mp ht' with z | z
          · exact .inl ⟨t', z, ey⟩
          · rw [List.mem_singleton.mp z] at ey; exact .inr ey
    · rintro σ H3 ⟨⟨s3, s4, s5, rfl⟩, k3, M, ⟨kv3, hf3, e3⟩, nd, lM, hM⟩
      have kk3 : Ke H H3 := Ke.then (k1.trans k2) k3 nS
      refine ⟨_, rfl, fd, kv3, rfl, .inl hf3, fun q bs hq ik => ?_⟩
      have pk := isKeys_TI ik e3
      have kq : Ke H3 (upd H3 q (.lst (bs.map V.ref))) := Ke.new hq
      refine k _ _ M (kk3.trans kq) ⟨q, _, rfl, Nw.new (kk3.free hq) upd_same, pimp (fun v x r => TI.stb _ _ v x (kq.tx.trans (Nw.tx (kk3.trans kq))) r) pk⟩ nd (by omega) fun y => ?_
      rw [hM]
      constructor
      · rintro ⟨t, ht, ey⟩
        exact ⟨i, j, c, si, sj, t, tn, (mLt t).mp ht, ey⟩
      · rintro ⟨i', j', c', si', sj', t, tn', hw, ey⟩
        obtain ⟨rfl, rfl, rfl, rfl, rfl⟩ := trN_uniq tn tn'
        exact ⟨t, (mLt t).mpr hw, ey⟩
theorem ok_lasts_against : FnOk P w K mg base CX0 2 T.a_lasts_against T.d_lasts_against P_lasts_against (sp_against T.a_Twins T.a_Reader) := by
  refine T.F_lasts_against.ok sc_lasts_against (fun vs H Q E h => ?_) (fun cdv A outer s H vs Q E hr h => ?_)
  · obtain ⟨p, o, ks, u, x, i, j, c, si, sj, rfl, _⟩ := h; rfl
  · obtain ⟨p, o, ks, u, x, i, j, c, si, sj, rfl, tw, ⟨ua, rfl, hu0⟩, tn, k⟩ := h
    have hu := hu_of hr
    obtain ⟨rfl, hi, hj, nc⟩ := id tn
    have tc := T.twc
    obtain ⟨dx, r, vb, hp, _, _⟩ := tw.ex
    have ni : NumOk ks (i : Int) := .inr ⟨by omega, by have := (List.getElem?_eq_some_iff.mp hi).1; omega⟩
    have nj : NumOk ks (j : Int) := .inr ⟨by omega, by have := (List.getElem?_eq_some_iff.mp hj).1; omega⟩
    refine ⟨_, (pss_cons (ps_asg (pv 1) (pg_tup rfl (pgs_cons (pg_name (i := 2) sc_lasts_against.nd rfl (Or.inl rfl)) (pgs_cons (pg_name (i := 3) sc_lasts_against.nd rfl (Or.inr rfl)) (pgs_cons (pg_name (i := 4) sc_lasts_against.nd rfl (Or.inr rfl)) pgs_nil)))))
  (pss_cons (ps_setLc (i := 5) (own := [("last", 6)]) rfl sc_lasts_against.nd rfl rfl (sw_true rfl rfl rfl (by decide +kernel)) (pi_tup (pe_meth (pv 0) T.c_Twins T.t_Twins_lasts (ok_Twins_lasts T) (hr.mono (by decide)) T.b_Twins_lasts .nil pass0 (pa_cons (pv 2) pa_nil))) (blkOk_by (own := [("last", 6)]) (N := N_lasts_against) (sc := defScope s_lasts_against) (by decide +kernel)) (fun _ _ _ _ _ => (pg_name (i := 6) sc_lasts_against.nd rfl (Or.inl rfl))) (fun _ _ _ _ _ => pts_one (pt_cmpR (op_in_seqK K rfl) (pv 6) (pe_meth (pv 0) T.c_Twins T.t_Twins_lasts (ok_Twins_lasts T) (hr.mono (by decide)) T.b_Twins_lasts .nil pass0 (pa_cons (pv 3) pa_nil)) rfl)) (fun _ _ _ _ _ => (pv 6)))
  (pss_one (ps_ret (pe_lc (own := [("last", 6)]) rfl sc_lasts_against.nd (pi_list (pv 5)) (blkOk_by (own := [("last", 6)]) (N := N_lasts_against) (sc := defScope s_lasts_against) (by decide +kernel)) (fun _ _ _ _ _ => (pg_name (i := 6) sc_lasts_against.nd rfl (Or.inl rfl))) (fun _ _ _ _ _ => pts_one (PW.pt (pw_or (pt_cmpR op_eq (pv 4) (pe_glob (v := .int (-1)) rfl T.g_DEAD ⟨_, rfl⟩) (nomark _)) (pw_or1 (pt_cmpR (op_notIn_seqK K rfl) (pv 6) (pe_meth (pv 0) T.c_Twins T.t_Twins_lasts (ok_Twins_lasts T) (hr.mono (by decide)) T.b_Twins_lasts .nil pass0 (pa_cons (pv 4) pa_nil)) rfl))))) (fun _ _ _ _ _ => (pv 6))))))), ?_⟩
    refine ⟨_, rfl, ua, _, rfl, SqT.of hu0, rfl, _, _, rfl, _, _, rfl, _, _, rfl, rfl, ?_⟩
    refine ⟨_, rfl, p, dx, _, rfl, hp, (by rfl), _, rfl, p, o, ks, (i : Int), rfl, tw, ni, fun v' H1 k1 hv1 => ?_⟩
    obtain ⟨la, rfl, hla⟩ := hv1
    refine ⟨la, rfl, ⟨_, SqT.of hla⟩, fun D hD => lc_W (R := II) walk_tup (II.stb.sto) (lastsN o ks (i : Int)) (fun m => decide (m ∈ lastsN o ks (j : Int))) id hD (by have := len_lastsN (ks := ks) tw.wf (i : Int); rw [sizeLine_eq]; omega) (by simp) (fun H4 k4 => SqT.of (k4.at hla)) (fun a H4 v H5 k4 y => ?_) ?_ ?_⟩
    · obtain ⟨rfl, e⟩ := y
      rw [List.getElem?_map] at e
      cases e3 : (lastsN o ks (i : Int))[a]? with
      | none => rw [e3] at e; cases e
      | some m =>
        rw [e3] at e
        exact ⟨rfl, m, rfl, (Option.some.inj e).symm⟩
    · rintro v m H4 hm rfl k4 nD Z Z' z z'
      have kk4 := k1.trans k4
      refine ⟨rfl, ?_⟩
      refine ⟨_, rfl, _, rfl, p, dx, _, rfl, kk4.at hp, (by rfl), _, rfl, p, o, ks, (j : Int), rfl, tw.ke kk4, nj, fun v' H5 k5 hv5 => ?_⟩
      obtain ⟨lb, rfl, hlb⟩ := hv5
      refine ⟨lb, _, rfl, .inr (SqT.of hlb), rfl, flat_int _, _, rfl, ?_⟩
      rw [inV_int]
      by_cases q : m ∈ lastsN o ks (j : Int)
      · exact iteT' (by simp [q]) ⟨_, rfl, z (decide_eq_true q) _ _ k5 rfl⟩
      · exact iteF' (by simp [q]) (z' (decide_eq_false q) _ k5)
    · intro H4 k4 hl
      rw [List.map_id] at hl
      obtain ⟨D', ws, eD, hDn, pw⟩ := hl
      cases eD
      obtain ⟨_, hDn⟩ := Hd.at hDn
      have kk4 := k1.trans k4
      refine stepN ?_
      dsimp only
      refine ⟨_, rfl, D, rfl, ⟨_, SqL.of hDn⟩, fun D2 hD2 => lc_W (R := II) walk_list (II.stb.sto) ((lastsN o ks (i : Int)).filter fun m => decide (m ∈ lastsN o ks (j : Int))) (fun m => decide (m ∉ lastsN o ks c)) id hD2 (by have := len_lastsN (ks := ks) tw.wf (i : Int); have := List.length_filter_le (fun m => decide (m ∈ lastsN o ks (j : Int))) (lastsN o ks (i : Int)); rw [sizeLine_eq]; omega) (plen pw).symm (fun H5 k5 => SqL.of (k5.at hDn)) (fun a H5 v H6 k5 y => ?_) ?_ ?_⟩
      · obtain ⟨rfl, e⟩ := y
        obtain ⟨m, e2, r⟩ := pgetL pw e
        exact ⟨rfl, m, e2, r⟩
      · rintro v m H5 hm rfl k5 nD Z Z' z z'
        have kk5 := kk4.trans k5
        refine ⟨rfl, ?_⟩
        refine ⟨_, rfl, rfl, _, rfl, ?_⟩
        by_cases e1 : c = -1
        · have nm : m ∉ lastsN o ks c := by unfold lastsN; rw [if_pos e1]; simp
          exact ifT (by rw [e1]) (iteT' rfl ⟨_, rfl, z (decide_eq_true nm) _ _ .refl rfl⟩)
        · refine ifF (fun z => e1 (by injection z)) ?_
          refine ⟨_, rfl, _, rfl, p, dx, _, rfl, kk5.at hp, (by rfl), _, rfl, p, o, ks, c, rfl, tw.ke kk5, nc, fun v' H6 k6 hv6 => ?_⟩
          obtain ⟨lb, rfl, hlb⟩ := hv6
          refine ⟨lb, _, rfl, .inr (SqT.of hlb), rfl, flat_int _, _, rfl, ?_⟩
          rw [inV_int]
          by_cases q : m ∈ lastsN o ks c
          · exact iteF' (by simp [q]) (z' (decide_eq_false (by simp [q])) _ k6)
          · exact iteT' (by simp [q]) ⟨_, rfl, z (decide_eq_true q) _ _ k6 rfl⟩
      · intro H5 k5 hl
        rw [List.map_id] at hl
        exact k _ H5 (kk4.trans k5) (LL.sto II.stb.sto _ _ _ _ (Le.ke Nw.le) hl)
end
end Fd
set_option Elab.async false
set_option linter.all false
set_option maxRecDepth 100000
set_option maxHeartbeats 4000000
/-! Triples by numbers. -/
namespace Fd
open PySem PySem.Spec PyProof.Rows L2
def begM (x : List Int) : List Int := [x.getD 0 0, x.getD 1 0, x.getD 0 0]
/-- what can be come to from a triple -/
inductive WRe (o : Ofc) (ks : List (List Int)) (x : List Int) : List Int → Prop
  | z : WRe o ks x x
  | s {y z : List Int} : WRe o ks x y → WS o ks y z → WRe o ks x z
def IsTr (ks : List (List Int)) (x : List Int) : Prop := ∃ i j c si sj, TrN ks x i j c si sj
/-- a triple that comes of some pairs -/
def FromL (o : Ofc) (ks L : List (List Int)) (x : List Int) : Prop := ∃ p ∈ L, WRe o ks (begM p) x
theorem begM_tr {o : Ofc} {ks : List (List Int)} {n : Nat} {x : List Int} (h : Pn o ks n x) : IsTr ks (begM x) := by
  obtain ⟨i, j, si, sj, rfl, hi, hj, _⟩ := h
  exact ⟨i, j, (i : Int), si, sj, rfl, hi, hj, .inr ⟨by omega, by have := (List.getElem?_eq_some_iff.mp hi).1; omega⟩⟩
theorem begM_inj {o : Ofc} {ks : List (List Int)} {n : Nat} {x y : List Int} (hx : Pn o ks n x) (hy : Pn o ks n y) (e : begM x = begM y) : x = y := by
  obtain ⟨i, j, _, _, rfl, _⟩ := hx
  obtain ⟨i', j', _, _, rfl, _⟩ := hy
  have e : [(i : Int), (j : Int), (i : Int)] = [(i' : Int), (j' : Int), (i' : Int)] := e
  injection e with e1 e2
  injection e2 with e2 _
  rw [e1, e2]
section
variable {o : Ofc} {ks : List (List Int)} (k : KsI o ks) (cl : Closed o ks ks.length)
include k cl
theorem behind_ok (c : Int) (st : List Int) : NumOk ks (behindM o ks c st) := by
  unfold behindM
  split
  · rename_i h
    obtain ⟨h0, s, hs, ht, hn⟩ := h
    have e : ks.getD c.toNat [] = s := by rw [List.getD_eq_getElem?_getD, hs]; rfl
    have hm : goalsM o s st ∈ ks := cl _ s (List.getElem?_eq_some_iff.mp hs).1 hs st ht hn
    rw [e]
    exact .inr ⟨by omega, by have := List.idxOf_lt_length_iff.mpr hm; omega⟩
  · exact .inl rfl
theorem ws_tr {x y : List Int} (h : WS o ks x y) : IsTr ks y := by
  obtain ⟨i, j, c, si, sj, t, ⟨e, hi, hj, nc⟩, ⟨t1, t2, t3, t4, t5, t6⟩, ey⟩ := h
  have m1 : goalsM o si t.2.1 ∈ ks := cl _ si (List.getElem?_eq_some_iff.mp hi).1 hi _ t1 t4
  have m2 : goalsM o sj t.2.2 ∈ ks := cl _ sj (List.getElem?_eq_some_iff.mp hj).1 hj _ t2 t5
  exact ⟨_, _, _, _, _, ey.trans t6, idx_get m1, idx_get m2, behind_ok k cl c _⟩
theorem from_tr {n : Nat} {L : List (List Int)} (hL : ∀ x ∈ L, Pn o ks n x) {x : List Int} (h : FromL o ks L x) : IsTr ks x := by
  obtain ⟨p, hp, w⟩ := h
  cases w with
  | z => exact begM_tr (hL p hp)
  | s _ q => exact ws_tr k cl q
theorem len_tr {W : List (List Int)} (nd : W.Nodup) (h : ∀ x ∈ W, IsTr ks x) : W.length ≤ 219600 := by
  have h1 := len_sub (b := (ran 60).flatMap fun i => (ran 60).flatMap fun j => (ran 61).map fun c => [i, j, c - 1]) nd fun x hx => by
    obtain ⟨i, j, c, si, sj, rfl, h1, h2, nc⟩ := h x hx
    have l1 := (List.getElem?_eq_some_iff.mp h1).1
    have l2 := (List.getElem?_eq_some_iff.mp h2).1
    have l3 := k.le
    have : -1 ≤ c ∧ c < 60 := by
      rcases nc with z | ⟨z1, z2⟩
      · omega
      · omega
    exact List.mem_flatMap.mpr ⟨i, mem_ran.mpr ⟨by omega, by omega⟩, List.mem_flatMap.mpr ⟨j, mem_ran.mpr ⟨by omega, by omega⟩, List.mem_map.mpr ⟨c + 1, mem_ran.mpr ⟨by omega, by omega⟩, by rw [show c + 1 - 1 = c from by omega]⟩⟩⟩
  refine Nat.le_trans h1 ?_
  have e60 : (ran 60).length = 60 := by unfold ran; simp
  have e61 : (ran 61).length = 61 := by unfold ran; simp
  have h2 := flat_len (f := fun i => (ran 60).flatMap fun j => (ran 61).map fun c => [i, j, c - 1]) (n := 3660) (fun a => by
    have := flat_len (f := fun j => (ran 61).map fun c => [a, j, c - 1]) (n := 61) (fun b => by rw [List.length_map, e61]; exact Nat.le_refl _) (ran 60)
    rw [e60] at this
    exact this) (ran 60)
  rw [e60] at h2
  exact h2
end
/-- a dict by its keys, what stands there told by data -/
def TabD (R : Rl (List Int)) (H : Hp) (d : Addr) (W : List (List Int)) : Prop := ∃ kvs, H d = some (.dT kvs) ∧ kvs.map (·.1) = W.map keyI ∧ ∀ x ∈ W, ∃ v, valV kvs (keyI x) = some v ∧ R H v x
theorem TabD.sto {R : Rl (List Int)} (s : Sto R) {H H' : Hp} {d : Addr} {W : List (List Int)} (x : TabD R H d W) (k : Ke H H') : TabD R H' d W := by
  obtain ⟨kvs, h, e, f⟩ := x
  exact ⟨kvs, k.at h, e, fun x hx => by
    obtain ⟨v, h1, h2⟩ := f x hx
    exact ⟨v, h1, s _ _ _ _ k h2⟩⟩
/-- the list of what comes next -/
def NxL (o : Ofc) (ks : List (List Int)) : Rl (List Int) := fun H v x => ∃ M, LL TI H v M ∧ M.Nodup ∧ M.length ≤ 4000000 ∧ ∀ y, y ∈ M ↔ WS o ks x y
theorem NxL.sto {o : Ofc} {ks : List (List Int)} : Sto (NxL o ks) := fun H H' v x k ⟨M, h, r⟩ => ⟨M, LL.sto TI.stb.sto _ _ _ _ k h, r⟩
theorem valV_at : ∀ {kvs : List (List Key × V)} {W : List (List Int)} {m : Nat} {x : List Int} {kv : List Key × V}, kvs.map (·.1) = W.map keyI → W.Nodup → kvs[m]? = some kv → W[m]? = some x → valV kvs (keyI x) = some kv.2 ∧ kv.1 = keyI x
  | [], _, m, _, _, _, _, h, _ => by simp at h
  | p :: r, [], _, _, _, e, _, _, _ => by simp at e
  | p :: r, w :: W, 0, x, kv, e, _, h, h' => by
    have h := Option.some.inj (by simpa using h)
    have h' := Option.some.inj (by simpa using h')
    subst h h'
    have e := (List.cons.inj e).1
    exact ⟨valV_pos e, e⟩
  | p :: r, w :: W, m + 1, x, kv, e, nd, h, h' => by
    obtain ⟨e1, e2⟩ := List.cons.inj e
    obtain ⟨n1, n2⟩ := List.nodup_cons.mp nd
    have h2 : W[m]? = some x := by simpa using h'
    obtain ⟨g1, g2⟩ := valV_at (kvs := r) (W := W) (m := m) e2 n2 (by simpa using h) h2
    refine ⟨?_, g2⟩
    rw [valV_neg (fun z => n1 (by
      have : w = x := keyI_inj (e1.symm.trans z)
      rw [this]; exact List.mem_of_getElem? h2))]
    exact g1
theorem nodup_map {α β : Type} {f : α → β} : ∀ {l : List α}, l.Nodup → (∀ x ∈ l, ∀ y ∈ l, f x = f y → x = y) → (l.map f).Nodup
  | [], _, _ => .nil
  | x :: l, h, g => by
    obtain ⟨h1, h2⟩ := List.nodup_cons.mp h
    rw [List.map_cons]
    refine List.nodup_cons.mpr ⟨fun z => ?_, nodup_map h2 fun a ha b hb => g a (by simp [ha]) b (by simp [hb])⟩
    obtain ⟨y, hy, e⟩ := List.mem_map.mp z
    exact h1 (by rw [← g y (by simp [hy]) x (by simp) e]; exact hy)
theorem keys_same {kvs : List (List Key × V)} {W : List (List Int)} {x : List Int} {v : V} (e : kvs.map (·.1) = W.map keyI) (h : x ∈ W) : (putK kvs (keyI x) v).map (·.1) = W.map keyI := by
  have := keys_put keyI (fun _ _ z => keyI_inj z) (g := x) (v := v) e
  unfold addk at this
  rw [if_pos h] at this
  exact this
end Fd
set_option Elab.async false
set_option linter.all false
set_option maxRecDepth 100000
set_option maxHeartbeats 4000000
namespace Fd
open PySem PySem.Spec PyProof.Rows L2 RZ
def sp_all (C CR : Addr) : Sp := fun xs H Q _ => ∃ p o ks d n L, xs = [.ref p, .ref d] ∧ TwAt C CR H p o ks ∧ KD H d L ∧ IsLev o ks n L ∧ ∀ d' H' W, Ke H H' → TabD (NxL o ks) (Nw H H') d' W → W.Nodup → (∀ x, x ∈ W ↔ FromL o ks L x) → Q (.ref d') H'
/-- what is hidden while the table is made -/
abbrev HS3 (Hb : Hp) (fd wl : Addr) : Addr → Prop := fun a => Old Hb a ∨ a = fd ∨ a = wl
/-- the heap while the table is made -/
structure MidT (o : Ofc) (ks L : List (List Int)) (Hb : Hp) (fd wl : Addr) (H0 : Hp) (n1 n2 : Nat) (W : List (List Int)) (H : Hp) : Prop where
  kk : Ks (fun a => a = fd ∨ a = wl) H0 H
  ta : ∃ kvs, H fd = some (.dT kvs) ∧ kvs.map (·.1) = W.map keyI ∧ ∀ (m : Nat) x, m < n1 → W[m]? = some x → ∃ v, valV kvs (keyI x) = some v ∧ NxL o ks (Hd (HS3 Hb fd wl) H) v x
  wa : LL TI H (.ref wl) W
  nd : W.Nodup
  fr : ∀ x ∈ W, FromL o ks L x
  cl : ∀ (m : Nat) x, m < n2 → W[m]? = some x → ∀ y, WS o ks x y → y ∈ W
  ini : ∀ p ∈ L, begM p ∈ W
theorem MidT.ke {o : Ofc} {ks L : List (List Int)} {Hb : Hp} {fd wl : Addr} {H0 H H' : Hp} {n1 n2 : Nat} {W : List (List Int)} (x : MidT o ks L Hb fd wl H0 n1 n2 W H) (k : Ke H H') : MidT o ks L Hb fd wl H0 n1 n2 W H' := by
  obtain ⟨kvs, h, e, f⟩ := x.ta
  exact ⟨x.kk.trans k.ks, ⟨kvs, k.at h, e, fun m y hm hy => by
    obtain ⟨v, h1, h2⟩ := f m y hm hy
    exact ⟨v, h1, NxL.sto _ _ _ _ (Hd.ke k.ks) h2⟩⟩, LL.sto TI.stb.sto _ _ _ _ k x.wa, x.nd, x.fr, x.cl, x.ini⟩
theorem hs3_up {Hb H : Hp} {fd wl : Addr} {u u' : HO} : Le (Hd (HS3 Hb fd wl) H) (Hd (HS3 Hb fd wl) (upd (upd H fd u) wl u')) := fun a o e => by
  obtain ⟨n, e⟩ := Hd.at e
  exact Hd.get n (by rw [upd_ne (fun z => n (.inr (.inr z))), upd_ne (fun z => n (.inr (.inl z)))]; exact e)
theorem MidT.add {o : Ofc} {ks L : List (List Int)} {Hb : Hp} {fd wl : Addr} {H0 H : Hp} {n1 n2 : Nat} {W : List (List Int)} {x : List Int} {v q : V} {kvs : List (List Key × V)} {ws : List V} (m : MidT o ks L Hb fd wl H0 n1 n2 W H) (l1 : n1 ≤ W.length) (l2 : n2 ≤ W.length) (n : fd ≠ wl) (hx : x ∉ W) (hp : FromL o ks L x)
    (hf : H fd = some (.dT kvs)) (hw : H wl = some (.lst ws)) (hq : TI H q x) : MidT o ks L Hb fd wl H0 n1 n2 (W ++ [x]) (upd (upd H fd (.dT (putK kvs (keyI x) v))) wl (.lst (ws ++ [q]))) := by
  have tx : Tx H (upd (upd H fd (.dT (putK kvs (keyI x) v))) wl (.lst (ws ++ [q]))) := ⟨fun a xs h => by
    rw [upd_ne (fun z => by rw [z, hw] at h; cases h), upd_ne (fun z => by rw [z, hf] at h; cases h)]; exact h⟩
  obtain ⟨kv', hf', e, f⟩ := m.ta
  rw [hf] at hf'
  cases hf'
  obtain ⟨wl', ws', ewl, hw', pw⟩ := m.wa
  cases ewl
  rw [hw] at hw'
  cases hw'
  refine ⟨(m.kk.mut (.inl rfl) (fun ys z => by rw [hf] at z; cases z)).mut (.inr rfl) (fun ys z => by rw [upd_ne n.symm, hw] at z; cases z), ⟨_, by rw [upd_ne n]; exact upd_same, kd_put e hx, fun a y ha hy => ?_⟩, ⟨wl, _, rfl, upd_same, papp (pimp (fun v x r => TI.stb _ _ v x tx r) pw) (.cons (TI.stb _ _ _ _ tx hq) .nil)⟩, L2.nd_snoc m.nd hx, fun y hy => ?_, fun a y ha hy z hz => ?_, fun p hp => List.mem_append_left _ (m.ini p hp)⟩
  · rw [List.getElem?_append_left (by omega)] at hy
    obtain ⟨u, h1, h2⟩ := f a y ha hy
    refine ⟨u, ?_, NxL.sto _ _ _ _ (Le.ke hs3_up) h2⟩
    rw [valV_put, if_neg (fun z => hx (by rw [← keyI_inj z]; exact List.mem_of_getElem? hy))]
    exact h1
  · rcases List.mem_append.mp hy with z | z
    · exact m.fr y z
    · rw [List.mem_singleton.mp z]; exact hp
  · rw [List.getElem?_append_left (by omega)] at hy
    exact List.mem_append_left _ (m.cl a y ha hy z hz)
section
variable {P : Program} {w : World} {K : PySem.W.Frag} {mg : Str → Option Value} {base : Heap} (T : Txt K mg)
include T
theorem ok_all_triples : FnOk P w K mg base CX0 5 T.a_all_triples T.d_all_triples P_all_triples (sp_all T.a_Twins T.a_Reader) := by
  refine T.F_all_triples.ok sc_all_triples (fun vs H Q E h => ?_) (fun cdv A outer s H vs Q E hr h => ?_)
  · obtain ⟨p, o, ks, d, n, L, rfl, _⟩ := h; rfl
  · obtain ⟨p, o, ks, d, n, L, rfl, tw, ⟨kvs, hd, ek⟩, lev, k⟩ := h
    have hu := hu_of hr
    have ki := tw.ki
    have cl := tw.cl
    have pL : ∀ x ∈ L, Pn o ks n x := fun x hx => (lev.2 x).mp hx
    have lL := len_pn ki cl lev.1 pL
    obtain ⟨dx, r, vb, hp, _, _⟩ := tw.ex
    refine ⟨_, (pss_cons (ps_setLc (i := 2) (own := [("pair", 6)]) rfl sc_all_triples.nd rfl rfl (sw_true rfl rfl rfl (by decide +kernel)) (pi_list (pe_callB (cr_sortedD hr) (by rfl) T.n_sorted (by decide +kernel) (pa_cons (pe_callTy (call_list_dT rfl) (by rfl) T.n_list (by decide +kernel) (pa_cons (pv 1) pa_nil)) pa_nil))) (blkOk_by (own := [("pair", 6)]) (N := N_all_triples) (sc := defScope s_all_triples) (by decide +kernel)) (fun _ _ _ _ _ => (pg_name (i := 6) sc_all_triples.nd rfl (Or.inl rfl))) (fun _ _ _ _ _ => pts_nil) (fun _ _ _ _ _ => (pe_call (ok_begin_triple T) (hr.mono (by decide)) rfl T.g_begin_triple T.k_begin_triple T.b_begin_triple .nil pass0 (pa_cons (pv 6) pa_nil))))
  (pss_cons (ps_setDcT (i := 3) (own := [("triple", 7)]) hu rfl sc_all_triples.nd rfl rfl (sw_trueD rfl rfl rfl (by decide +kernel)) (pi_list (pv 2)) (blkOk_by (own := [("triple", 7)]) (N := N_all_triples) (sc := defScope s_all_triples) (by decide +kernel)) (fun _ _ _ _ _ => (pg_name (i := 7) sc_all_triples.nd rfl (Or.inl rfl))) (fun _ _ _ _ _ => pts_nil) (fun _ _ _ _ _ => (pv 7)) (fun _ _ _ _ _ => pe_non))
  (pss_cons (ps_set (i := 4) sc_all_triples.nd rfl (Or.inl rfl) pe_int)
  (pss_cons (ps_while PassesOwn.never (pt_cmpR op_lt (pv 4) (pe_callB call_len (by rfl) T.n_len (by decide +kernel) (pa_cons (pv 2) pa_nil)) (nomark _)) (pss_cons (ps_dput hu (pv 3) (pe_ix ix_list (pv 2) (pv 4) (fun _ _ => rfl)) (pe_call (ok_goals_on T) (hr.mono (by decide)) rfl T.g_goals_on T.k_goals_on T.b_goals_on .nil pass0 (pa_cons (pv 0) (pa_cons (pe_ix ix_list (pv 2) (pv 4) (fun _ _ => rfl)) pa_nil))) rfl)
  (pss_cons (ps_for PassesOwn.never rfl (pi_list (pe_dget hu (pv 3) (pe_ix ix_list (pv 2) (pv 4) (fun _ _ => rfl)) (fun _ _ => rfl))) (pg_name (i := 5) sc_all_triples.nd rfl (Or.inl rfl)) (pss_one (ps_if (pt_cmp (pc_dnotin hu (pv 5) (pv 3))) (pss_cons (ps_dput hu (pv 3) (pv 5) pe_non rfl)
  (pss_one (ps_expr (pe_bm PySem.F.plainAttrs_list PySem.F.slot_list_append PySem.F.type_list_append mt_append (pv 2) (pa_cons (pv 5) pa_nil))))) pss_nil)))
  (pss_one (ps_aug (i := 4) sc_all_triples.nd rfl (Or.inl rfl) pe_int ip_add)))))
  (pss_one (ps_ret (pv 3))))))), ?_⟩
    refine ⟨_, rfl, d, kvs, rfl, .inl hd, fun q bs hq ik => ?_⟩
    have pk := isKeys_TI ik ek
    have k1 : Ke H (upd H q (.lst (bs.map V.ref))) := Ke.new hq
    have h1q : (upd H q (.lst (bs.map V.ref))) q = some (.lst (bs.map V.ref)) := upd_same
    generalize upd H q (.lst (bs.map V.ref)) = H1 at k1 h1q ⊢
    refine ⟨q, _, List Int, TI H1, tI, L, rfl, SqL.of h1q, pimp (fun v x r => TI.stb _ _ v x k1.tx r) pk, fun v x r => TI.enc K _ v x r, ok_T (fun m hm => (pL m hm).len), fun q2 out hq2 po => ?_⟩
    have po : Paired (TI H1) out (sortT L) := po
    have k2 : Ke H1 (upd H1 q2 (.lst out)) := Ke.new hq2
    have h2q : (upd H1 q2 (.lst out)) q2 = some (.lst out) := upd_same
    generalize upd H1 q2 (.lst out) = H2 at k2 h2q ⊢
    have k02 := k1.trans k2
    refine ⟨q2, rfl, ⟨_, SqL.of h2q⟩, fun wl hwl => lc_W (R := TI) walk_list (TI.stb.sto) (sortT L) (fun _ => true) begM hwl (by rw [len_sortT, sizeLine_eq]; omega) (plen po).symm (fun H4 k4 => SqL.of (k4.at h2q)) (fun a H4 v H5 k4 y => ?_) ?_ ?_⟩
    · obtain ⟨rfl, e⟩ := y
      obtain ⟨x, e2, r⟩ := pgetL po e
      exact ⟨rfl, x, e2, TI.stb _ _ _ _ (k2.tx.trans k4.tx) r⟩
    · rintro v x H4 hx rv k4 nD Z Z' z z'
      obtain ⟨i, j, si, sj, rfl, _⟩ := pL x (mem_sortT.mp hx)
      refine ⟨rfl, yesT ?_⟩
      exact ⟨_, rfl, v, (i : Int), (j : Int), rfl, rv, fun v' H5 k5 hv => z rfl v' H5 k5 (TI.stb _ _ _ _ (Nw.tx k5) hv)⟩
    · intro H3 k3 hl
      rw [List.filter_eq_self.mpr (fun _ _ => rfl)] at hl
      obtain ⟨wl', ws0, ewl, hw3, pw0⟩ := hl
      cases ewl
      obtain ⟨_, hw3⟩ := Hd.at hw3
      have pw0 := pimp (fun v x r => TI.stb _ _ v x (Le.ke Nw.le).tx r) pw0
      have nd0 : ((sortT L).map begM).Nodup := nodup_map ((List.mergeSort_perm L _).nodup_iff.mpr lev.1) fun x hx y hy e => begM_inj (pL x (mem_sortT.mp hx)) (pL y (mem_sortT.mp hy)) e
      have l0 : ((sortT L).map begM).length ≤ 3600 := by rw [List.length_map, len_sortT]; exact lL
      have in0 : ∀ x, x ∈ (sortT L).map begM ↔ ∃ p ∈ L, x = begM p := fun x => by
        rw [List.mem_map]
        exact ⟨fun ⟨p, hp, e⟩ => ⟨p, mem_sortT.mp hp, e.symm⟩, fun ⟨p, hp, e⟩ => ⟨p, mem_sortT.mpr hp, e.symm⟩⟩
      generalize hW0 : (sortT L).map begM = W0 at pw0 nd0 l0 in0
      have k03 := k02.trans k3
      have hwl0 : H wl = none := k02.free hwl
      have lw0 := plen pw0
      refine stepN ?_
      dsimp only
      refine ⟨_, rfl, wl, rfl, ⟨_, SqL.of hw3⟩, fun fd hfd => ?_⟩
      have nfw : fd ≠ wl := fun z => by rw [z, hw3] at hfd; cases hfd
      have hfd0 : H fd = none := k03.free hfd
      refine dc_itT (walk_list (xs := ws0)) (fun i H' => Ke H3 H' ∧ ∃ kv, H' fd = some (.dT kv) ∧ kv.map (·.1) = (W0.take i).map keyI) ⟨Ke.new hfd, [], upd_same, rfl⟩ (fun i H' _ p => SqL.of (p.1.at hw3)) ?_ ?_
      · rintro i v H4 H5 hi ⟨k4, kv, hf4, e4⟩ ⟨rfl, ev⟩
        obtain ⟨x, ex, qa, rfl, hqa⟩ := pgetL pw0 ev
        have hx : x ∉ W0.take i := fun z => by
          obtain ⟨a, ha⟩ := List.mem_iff_getElem?.mp z
          have hlt := (List.getElem?_eq_some_iff.mp ha).1
          rw [List.length_take] at hlt
          rw [List.getElem?_take, if_pos (by omega)] at ha
          have := (List.getElem?_inj (by omega) nd0).mp (ha.trans ex.symm)
          omega
        have lk := kd_len e4
        rw [List.length_take] at lk
        refine ⟨rfl, yesT ?_⟩
        refine ⟨_, rfl, kv, keyI x, qa, rfl, (by rw [keyI_kV]; exact k4.at hqa), hf4, by rw [sizeLine_eq]; omega, k4.mutNew hfd, _, upd_same, ?_⟩
        have et : W0.take (i + 1) = W0.take i ++ [x] := by rw [List.take_succ, ex]; rfl
        rw [et]
        exact kd_put e4 hx
      · rintro H4 ⟨k4, kv, hf4, e4⟩
        rw [lw0, List.take_length] at e4
        have k04 := k03.trans k4
        refine stepN ?_
        dsimp only
        refine stepA ?_
        have nS : ∀ a, (a = fd ∨ a = wl) → H a = none := by
          rintro a (rfl | rfl)
          · exact hfd0
          · exact hwl0
        have hw4 := k4.at hw3
        have pw4 := pimp (fun v x r => TI.stb _ _ v x k4.tx r) pw0
        have m0 : MidT o ks L H fd wl H4 0 0 W0 H4 := ⟨.refl, ⟨kv, hf4, e4, fun m x hm => by omega⟩, ⟨wl, ws0, rfl, hw4, pw4⟩, nd0, fun x hx => by
          obtain ⟨p, hp, rfl⟩ := (in0 x).mp hx
          exact ⟨p, hp, .z⟩, fun m x hm => by omega, fun p hp => (in0 _).mpr ⟨p, hp, rfl⟩⟩
        refine while_by (fun σ H' => ∃ (n : Nat) (W : List (List Int)), (∃ s5 s6 s7, σ = [some (.ref p), some (.ref d), some (.ref wl), some (.ref fd), some (.int n), s5, s6, s7]) ∧ n ≤ W.length ∧ MidT o ks L H fd wl H4 n n W H') (fun σ H' => far 300000 4 σ) ⟨0, W0, ⟨_, _, _, rfl⟩, Nat.zero_le _, m0⟩ ?_ ?_
        · rintro σ H5 ⟨n, W, ⟨s5, s6, s7, rfl⟩, hn, m⟩
          obtain ⟨wl', ws, ewl, hw5, pw5⟩ := m.wa
          cases ewl
          have lw := plen pw5
          have lW := len_tr ki cl m.nd fun x hx => from_tr ki cl pL (m.fr x hx)
          refine ⟨_, rfl, _, rfl, .ref wl, ws.length, rfl, .inl ⟨_, SqL.of hw5, rfl⟩, _, _, rfl, rfl, _, rfl, ite2 (fun c => ?_) (fun c => ?_)⟩
          · have hlt : n < W.length := by have := of_decide_eq_true c; omega
            obtain ⟨x, hx⟩ : ∃ x, W[n]? = some x := ⟨_, List.getElem?_eq_getElem hlt⟩
            have hxm := List.mem_of_getElem? hx
            obtain ⟨xv, hxv, xa, rfl, hxa⟩ := pget pw5 hx
            obtain ⟨i, j, cc, si, sj, tn⟩ := from_tr ki cl pL (m.fr x hxm)
            have kk5 : Ke H H5 := Ke.then k04 m.kk nS
            refine ⟨_, rfl, _, rfl, _, rfl, wl, ws, (n : Int), .ref xa, rfl, rfl, SqL.of hw5, atI_nat hxv rfl, p, o, ks, .ref xa, x, i, j, cc, si, sj, rfl, tw.ke kk5, ⟨xa, rfl, hxa⟩, tn, fun v' H6 M k6 hM ndM lM mM => ?_⟩
            have m6 := m.ke k6
            obtain ⟨kv6, hf6, e6, f6⟩ := m6.ta
            have hw6 := k6.at hw5
            have hxa6 := k6.at hxa
            have lk := kd_len e6
            have hMs : LL TI (Hd (HS3 H fd wl) H6) v' M := LL.sto TI.stb.sto _ _ _ _ (Le.ke (Hd.anti fun a z => by
              rcases z with z | z | z
              · exact z.ke kk5
              · rw [z]; obtain ⟨kv5, hf5, _⟩ := m.ta; exact .dT hf5
              · rw [z]; exact .lst hw5)) hM
            refine ⟨_, rfl, _, rfl, _, rfl, wl, ws, (n : Int), .ref xa, rfl, rfl, SqL.of hw6, atI_nat hxv rfl, fd, _, rfl, DPut.t (k := keyI x) hf6 (by rw [keyI_kV]; exact hxa6) (by rw [sizeLine_eq]; omega), ?_⟩
            -- the row's value is there
            have up : Le (Hd (HS3 H fd wl) H6) (Hd (HS3 H fd wl) (upd H6 fd (.dT (putK kv6 (keyI x) v')))) := fun a u e => by
              obtain ⟨z, e⟩ := Hd.at e
              exact Hd.get z (by rw [upd_ne (fun q => z (.inr (.inl q)))]; exact e)
            have tx67 : Tx H6 (upd H6 fd (.dT (putK kv6 (keyI x) v'))) := ⟨fun a xs h => by rw [upd_ne (fun z => by rw [z, hf6] at h; cases h)]; exact h⟩
            have m7 : MidT o ks L H fd wl H4 (n + 1) n W (upd H6 fd (.dT (putK kv6 (keyI x) v'))) := by
              refine ⟨m6.kk.mut (.inl rfl) (fun ys z => by rw [hf6] at z; cases z), ⟨_, upd_same, keys_same e6 hxm, fun a y ha hy => ?_⟩, ⟨wl, ws, rfl, by rw [upd_ne nfw.symm]; exact hw6, pimp (fun v x r => TI.stb _ _ v x (k6.tx.trans tx67) r) pw5⟩, m.nd, m.fr, m.cl, m.ini⟩
              rw [valV_put]
              by_cases ea : y = x
              · rw [if_pos (by rw [ea])]
                exact ⟨v', rfl, M, LL.sto TI.stb.sto _ _ _ _ (Le.ke up) hMs, ndM, lM, by rw [ea]; exact mM⟩
              · rw [if_neg (fun z => ea (keyI_inj z))]
                have hlt' : a < n := by
                  rcases Nat.lt_or_ge a n with z | z
                  · exact z
                  · have : a = n := by omega
                    rw [this, hx] at hy
                    exact absurd (Option.some.inj hy).symm ea
                obtain ⟨u, h1, h2⟩ := f6 a y hlt' hy
                exact ⟨u, h1, NxL.sto _ _ _ _ (Le.ke up) h2⟩
            have hxa7 := tx67.tup _ _ hxa6
            have hv7 : valV (putK kv6 (keyI x) v') (keyI x) = some v' := by rw [valV_put, if_pos rfl]
            have hf7 : (upd H6 fd (.dT (putK kv6 (keyI x) v'))) fd = some (.dT (putK kv6 (keyI x) v')) := upd_same
            have hw7 : (upd H6 fd (.dT (putK kv6 (keyI x) v'))) wl = some (.lst ws) := by rw [upd_ne nfw.symm]; exact hw6
            have hMs7 := LL.sto TI.stb.sto _ _ _ _ (Le.ke up) hMs
            generalize upd H6 fd (.dT (putK kv6 (keyI x) v')) = H7 at m7 hxa7 hf7 hw7 hMs7 ⊢
            clear m6 f6 up tx67 hMs
            obtain ⟨ml, mvs, rfl, hml, pM⟩ := hMs7
            obtain ⟨nml, hml⟩ := Hd.at hml
            have nmf : ml ≠ fd := fun z => nml (.inr (.inl z))
            have nmw : ml ≠ wl := fun z => nml (.inr (.inr z))
            refine ⟨_, rfl, _, rfl, _, rfl, wl, ws, (n : Int), .ref xa, rfl, rfl, SqL.of hw7, atI_nat hxv rfl, fd, _, rfl, (by rw [← hv7]; exact DGet.t (k := keyI x) hf7 (by rw [keyI_kV]; exact hxa7)), ?_⟩
            refine ⟨ml, rfl, ⟨_, SqL.of hml⟩, fo_L (R := TI (Hd (HS3 H fd wl) H7)) (fun dn σ H' => (∃ s5 s6 s7, σ = [some (.ref p), some (.ref d), some (.ref wl), some (.ref fd), some (.int n), s5, s6, s7]) ∧ Ks (fun a => a = fd ∨ a = wl) H7 H' ∧ ∃ r : List (List Int), MidT o ks L H fd wl H4 (n + 1) n (W ++ r) H' ∧ ∀ y ∈ dn, y ∈ W ++ r) pM
              ⟨⟨_, _, _, rfl⟩, .refl, [], by rw [List.append_nil]; exact m7, fun y hy => by cases hy⟩ (fun dn σ H' g => g.2.1.keep _ _ (fun z => z.elim nmf nmw) hml) ?_ ?_⟩
            · rintro dn y r0 v σ H8 e ⟨ya, rfl, hya⟩ ⟨⟨s5, s6, s7, rfl⟩, k8, r, m8, hin⟩
              have hya8 := ((Le.ke Hd.le).tx.trans k8.tx).tup _ _ hya
              have hws : WS o ks x y := (mM y).mp (by rw [e]; simp)
              obtain ⟨q0, hq0, wre⟩ := m.fr x hxm
              have hfy : FromL o ks L y := ⟨q0, hq0, .s wre hws⟩
              obtain ⟨kv8, hf8, e8, f8⟩ := m8.ta
              obtain ⟨wl', ws8, ewl, hw8, pw8⟩ := m8.wa
              cases ewl
              have lk8 := kd_len e8
              have l8 := len_tr ki cl m8.nd fun x hx => from_tr ki cl pL (m8.fr x hx)
              have lw8 := plen pw8
              refine ⟨_, rfl, _, rfl, fd, _, rfl, DGet.t (k := keyI y) hf8 (by rw [keyI_kV]; exact hya8), _, rfl, ?_⟩
              rw [kd_val e8]
              by_cases c : y ∈ W ++ r
              · refine iteF' (by simp [c]) (stepT ⟨⟨_, _, _, rfl⟩, k8, r, m8, fun y' hy' => ?_⟩)
                rcases List.mem_append.mp hy' with z | z
                · exact hin y' z
                · rw [List.mem_singleton.mp z]; exact c
              · refine iteT' (by simp [c]) ?_
                refine ⟨_, rfl, _, rfl, fd, _, rfl, DPut.t (k := keyI y) hf8 (by rw [keyI_kV]; exact hya8) (by rw [sizeLine_eq]; omega), ?_⟩
                refine ⟨_, rfl, .inl ⟨rfl, _, SqL.of (by rw [upd_ne nfw.symm]; exact hw8)⟩, _, rfl, wl, ws8, .ref ya, rfl, rfl, by rw [upd_ne nfw.symm]; exact hw8, by rw [sizeLine_eq]; omega, ⟨_, _, _, rfl⟩, ?_, r ++ [y], ?_, fun y' hy' => ?_⟩
                · exact (k8.mut (.inl rfl) (fun ys z => by rw [hf8] at z; cases z)).mut (.inr rfl) (fun ys z => by rw [upd_ne nfw.symm, hw8] at z; cases z)
                · rw [← List.append_assoc]
                  exact m8.add (by rw [List.length_append]; omega) (by rw [List.length_append]; omega) nfw c hfy hf8 hw8 ⟨ya, rfl, hya8⟩
                · rw [← List.append_assoc]
                  rcases List.mem_append.mp hy' with z | z
                  · exact List.mem_append_left _ (hin y' z)
                  · rw [List.mem_singleton.mp z]; simp
            · rintro σ H8 ⟨⟨s5, s6, s7, rfl⟩, k8, r, m8, hin⟩
              refine ⟨_, rfl, _, _, rfl, rfl, ⟨n + 1, W ++ r, ⟨_, _, _, rfl⟩, by rw [List.length_append]; omega, ⟨m8.kk, m8.ta, m8.wa, m8.nd, m8.fr, fun a y ha hy z hz => ?_, m8.ini⟩⟩, ?_⟩
              · by_cases ea : a = n
                · subst ea
                  rw [List.getElem?_append_left hlt, hx] at hy
                  have e1 := Option.some.inj hy
                  subst e1
                  exact hin z ((mM z).mpr hz)
                · exact m8.cl a y (by omega) hy z hz
              · show 300000 - ((n : Int) + 1).toNat < 300000 - (n : Int).toNat
                omega
          · have en : n = W.length := by
              have : ¬ ((n : Int) < (ws.length : Nat)) := fun z => c (decide_eq_true z)
              omega
            have kk5 : Ke H H5 := Ke.then k04 m.kk nS
            obtain ⟨kv5, hf5, e5, f5⟩ := m.ta
            refine ⟨_, rfl, k fd H5 W kk5 ⟨kv5, Nw.new hfd0 hf5, e5, fun x hx => ?_⟩ m.nd fun x => ⟨m.fr x, fun ⟨q0, hq0, wre⟩ => ?_⟩⟩
            · obtain ⟨a, ha⟩ := List.mem_iff_getElem?.mp hx
              obtain ⟨u, h1, h2⟩ := f5 a x (by have := (List.getElem?_eq_some_iff.mp ha).1; omega) ha
              exact ⟨u, h1, NxL.sto _ _ _ _ (Le.ke (Hd.anti fun a z => .inl z)) h2⟩
            · clear k f5
              revert wre
              intro wre
              have all : ∀ x, WRe o ks (begM q0) x → x ∈ W := fun x h => by
                induction h with
                | z => exact m.ini q0 hq0
                | @s y z _ hs ih =>
                  obtain ⟨a, ha⟩ := List.mem_iff_getElem?.mp ih
                  exact m.cl a y (by have := (List.getElem?_eq_some_iff.mp ha).1; omega) ha z hs
              exact all x wre
        · intro σ H' Q Q' hq h
          obtain ⟨v, e1, v', e2, x, n, e3, l1, i, j, e5, e6, b, e7, q⟩ := h
          exact ⟨v, e1, v', e2, x, n, e3, l1, i, j, e5, e6, b, e7, hq _ _ q⟩
end
end Fd
set_option Elab.async false
set_option linter.all false
set_option maxRecDepth 100000
set_option maxHeartbeats 4000000
namespace Fd
open PySem PySem.Spec PyProof.Rows L2 RZ
theorem walk_itemsT {d : Addr} {o : Obj} {kvs : List (List Key × V)} : Walk (ItiT d o kvs) kvs.length (fun H => H d = some (.frz o (.dT kvs))) (fun i H x H' => ∃ (t : Addr) (k : List Key) (v : V) (q : Addr), kvs[i]? = some (k, v) ∧ H q = some (.tup (k.map kV)) ∧ x = .ref t ∧ H t = none ∧ H' = upd H t (.tup [.ref q, v])) :=
  ⟨fun _ _ hi q => ⟨q, hi⟩, fun _ q => ⟨q, Nat.le_refl _⟩, fun _ _ _ _ _ _ y => y⟩
/-- the list of those behind which a triple comes next -/
def PvL (o : Ofc) (ks W : List (List Int)) : Rl (List Int) := fun H v y => ∃ M, LL TI H v M ∧ M.length ≤ 300000 ∧ ∀ x, x ∈ M ↔ x ∈ W ∧ WS o ks x y
theorem PvL.sto {o : Ofc} {ks W : List (List Int)} : Sto (PvL o ks W) := fun H H' v x k ⟨M, h, r⟩ => ⟨M, LL.sto TI.stb.sto _ _ _ _ k h, r⟩
def sp_elders : Sp := fun xs H Q _ => ∃ o ks d W, xs = [.ref d] ∧ TabD (NxL o ks) H d W ∧ W.Nodup ∧ W.length ≤ 300000 ∧ (∀ x ∈ W, ∀ y, WS o ks x y → y ∈ W) ∧ ∀ d' H', Ke H H' → TabD (PvL o ks W) (Nw H H') d' W → Q (.ref d') H'
theorem key_at {kvs : List (List Key × V)} {W : List (List Int)} (e : kvs.map (·.1) = W.map keyI) {i : Nat} {kv : List Key × V} (h : kvs[i]? = some kv) : ∃ x, W[i]? = some x ∧ kv.1 = keyI x := by
  have e2 : (kvs.map (·.1))[i]? = some kv.1 := by rw [List.getElem?_map, h]; rfl
  rw [e, List.getElem?_map] at e2
  cases e3 : W[i]? with
  | none => rw [e3] at e2; cases e2
  | some x =>
    rw [e3] at e2
    exact ⟨x, rfl, (Option.some.inj e2).symm⟩
theorem kv_two {kv : List (List Key × V)} {W : List (List Int)} {ls : List Addr} (e : kv.map (·.1) = W.map keyI) (e' : kv.map (·.2) = ls.map V.ref) (nd : W.Nodup) {m : Nat} {y : List Int} {a : Addr} (hy : W[m]? = some y) (ha : ls[m]? = some a) : valV kv (keyI y) = some (.ref a) := by
  have hlt : m < kv.length := by rw [kd_len e]; exact (List.getElem?_eq_some_iff.mp hy).1
  obtain ⟨p, hp⟩ : ∃ p, kv[m]? = some p := ⟨_, List.getElem?_eq_getElem hlt⟩
  have e2 : (kv.map (·.2))[m]? = some p.2 := by rw [List.getElem?_map, hp]; rfl
  rw [e', List.getElem?_map, ha] at e2
  rw [(valV_at e nd hp hy).1]
  exact e2.symm
section
variable {P : Program} {w : World} {K : PySem.W.Frag} {mg : Str → Option Value} {base : Heap} (T : Txt K mg)
include T
theorem ok_elders_of : FnOk P w K mg base CX0 1 T.a_elders_of T.d_elders_of P_elders_of sp_elders := by
  refine T.F_elders_of.ok sc_elders_of (fun vs H Q E h => ?_) (fun cdv A outer s H vs Q E hr h => ?_)
  · obtain ⟨o, ks, d, W, rfl, _⟩ := h; rfl
  · obtain ⟨o, ks, d, W, rfl, ⟨kvs, hd, ek, fv⟩, nd, lW, cl, k⟩ := h
    have hu := hu_of hr
    refine ⟨_, (pss_cons (ps_lock (ps_setDcT (i := 1) (own := [("triple", 2)]) hu rfl sc_elders_of.nd rfl rfl (sw_trueD rfl rfl rfl (by decide +kernel)) (pi_keys (pv 0)) (blkOk_by (own := [("triple", 2)]) (N := N_elders_of) (sc := defScope s_elders_of) (by decide +kernel)) (fun _ _ _ _ _ => (pg_name (i := 2) sc_elders_of.nd rfl (Or.inl rfl))) (fun _ _ _ _ _ => pts_nil) (fun _ _ _ _ _ => (pv 2)) (fun _ _ _ _ _ => (pe_lst pa_nil))))
  (pss_cons (ps_lock (ps_for PassesOwn.never rfl (pi_itemsT (pv 0)) (pg_tup rfl (pgs_cons (pg_name (i := 2) sc_elders_of.nd rfl (Or.inl rfl)) (pgs_cons (pg_name (i := 3) sc_elders_of.nd rfl (Or.inl rfl)) pgs_nil))) (pss_one (ps_for PassesOwn.never rfl (pi_list (pv 3)) (pg_name (i := 4) sc_elders_of.nd rfl (Or.inl rfl)) (pss_one (ps_expr (pe_bm PySem.F.plainAttrs_list PySem.F.slot_list_append PySem.F.type_list_append mt_append (pe_dget hu (pv 1) (pv 4) (fun _ _ => rfl)) (pa_cons (pv 2) pa_nil))))))))
  (pss_one (ps_ret (pv 1))))), ?_⟩
    refine ⟨d, _, hd, True.intro, fun od => ?_⟩
    have h1d : (upd H d (.frz od (.dT kvs))) d = some (.frz od (.dT kvs)) := upd_same
    have k1 : Ks (fun a => a = d) H (upd H d (.frz od (.dT kvs))) := lock_ks hd (fun xs z => by cases z)
    generalize upd H d (.frz od (.dT kvs)) = H1 at k1 h1d ⊢
    have lk := kd_len ek
    refine ⟨_, rfl, d, od, rfl, .inr ⟨kvs, h1d, fun D hD => dc_itT walk_keysT (fun i H' => Ke H1 H' ∧ ∃ (kv : List (List Key × V)) (ls : List Addr), H' D = some (.dT kv) ∧ kv.map (·.1) = (W.take i).map keyI ∧ kv.map (·.2) = ls.map V.ref ∧ ls.Nodup ∧ D ∉ ls ∧ ∀ a ∈ ls, H1 a = none ∧ H' a = some (.lst []))
      ⟨Ke.new hD, [], [], upd_same, rfl, rfl, .nil, (fun z => by cases z), fun a z => by cases z⟩ (fun i H' _ p => p.1.at h1d) ?_ ?_⟩⟩
    · rintro i v H2 H3 hi ⟨k2, kv, ls, hD2, e2, e2', ndl, nDl, hls⟩ ⟨rfl, key, vv, q, ekv, rfl, hq⟩
      obtain ⟨x, hx, ex⟩ := key_at ek ekv
      have ex : key = keyI x := ex
      have hxn : x ∉ W.take i := fun z => by
        obtain ⟨a, ha⟩ := List.mem_iff_getElem?.mp z
        have hlt := (List.getElem?_eq_some_iff.mp ha).1
        rw [List.length_take] at hlt
        rw [List.getElem?_take, if_pos (by omega)] at ha
        have := (List.getElem?_inj (by omega) nd).mp (ha.trans hx.symm)
        omega
      have lkv := kd_len e2
      rw [List.length_take] at lkv
      refine ⟨rfl, yesT ?_⟩
      refine ⟨_, rfl, by decide, fun a ha => ?_⟩
      have naD : a ≠ D := fun z => by rw [z, hD2] at ha; cases ha
      have nal : a ∉ ls := fun z => by have := (hls a z).2; rw [ha] at this; cases this
      have et : W.take (i + 1) = W.take i ++ [x] := by rw [List.take_succ, hx]; rfl
      refine ⟨kv, key, q, rfl, (Ke.new ha).at hq, by rw [upd_ne naD.symm]; exact hD2, by rw [sizeLine_eq]; omega, (k2.trans (Ke.new ha)).mutNew hD, _, ls ++ [a], upd_same, ?_, ?_, L2.nd_snoc ndl nal, fun z => ?_, fun b hb => ?_⟩
      · rw [et, ex]; exact kd_put e2 hxn
      · have hn : valV kv key = none := by
          have := kd_val e2 x
          rw [decide_eq_false hxn, ← ex] at this
          cases c : valV kv key with
          | none => rfl
          | some u => rw [c] at this; cases this
        rw [putK_new _ hn, List.map_append, List.map_append, e2']
        rfl
      · rcases List.mem_append.mp z with z | z
        · exact nDl z
        · exact naD (List.mem_singleton.mp z).symm
      · rcases List.mem_append.mp hb with z | z
        · have nb : b ≠ D := fun q => nDl (by rw [← q]; exact z)
          have nba : b ≠ a := fun q => nal (by rw [← q]; exact z)
          exact ⟨(hls b z).1, by rw [upd_ne nb, upd_ne nba]; exact (hls b z).2⟩
        · rw [List.mem_singleton.mp z]
          exact ⟨k2.free ha, by rw [upd_ne naD]; exact upd_same⟩
    · rintro H2 ⟨k2, kv, ls, hD2, e2, e2', ndl, nDl, hls⟩
      rw [lk, List.take_length] at e2
      have h2d := k2.at h1d
      have nDd : D ≠ d := fun z => by rw [z, h2d] at hD2; cases hD2
      have ll : ls.length = W.length := by
        have h1 := congrArg List.length e2'
        have h2 := congrArg List.length e2
        simp only [List.length_map] at h1 h2
        omega
      have nld : ∀ a ∈ ls, a ≠ d := fun a ha z => by have := (hls a ha).1; rw [z, h1d] at this; cases this
      have kk : Ke H (upd H2 d (.dT kvs)) := lock_ke hd (fun xs z => by cases z) (k1.trans k2.ks)
      have h3d : (upd H2 d (.dT kvs)) d = some (.dT kvs) := upd_same
      have h3D : (upd H2 d (.dT kvs)) D = some (.dT kv) := by rw [upd_ne nDd]; exact hD2
      have h3l : ∀ a ∈ ls, (upd H2 d (.dT kvs)) a = some (.lst []) := fun a ha => by rw [upd_ne (nld a ha)]; exact (hls a ha).2
      refine ⟨h2d, ?_⟩
      generalize upd H2 d (.dT kvs) = H3 at kk h3d h3D h3l ⊢
      have freeH : ∀ a, H1 a = none → H a = none := fun a h => k1.free h
      dsimp only
      refine ⟨d, _, h3d, True.intro, fun od2 => ?_⟩
      have h4d : (upd H3 d (.frz od2 (.dT kvs))) d = some (.frz od2 (.dT kvs)) := upd_same
      have k4 : Ks (fun a => a = d) H3 (upd H3 d (.frz od2 (.dT kvs))) := lock_ks h3d (fun xs z => by cases z)
      generalize upd H3 d (.frz od2 (.dT kvs)) = H4 at k4 h4d ⊢
      have h4D := k4.keep _ _ nDd h3D
      refine ⟨_, rfl, d, od2, kvs, rfl, h4d, ?_⟩
      refine for_it walk_itemsT (fun n σ H' => (∃ s2 s3 s4, σ = [some (.ref d), some (.ref D), s2, s3, s4]) ∧ Ks (fun a => a ∈ ls) H4 H' ∧ ∀ (m : Nat) y a, W[m]? = some y → ls[m]? = some a → ∃ ws M, H' a = some (.lst ws) ∧ Paired (TI H') ws M ∧ M.length ≤ n ∧ ∀ x, x ∈ M ↔ x ∈ W.take n ∧ WS o ks x y)
        ⟨⟨_, _, _, rfl⟩, .refl, fun m y a hy ha => ⟨[], [], k4.keep _ _ (nld a (List.mem_of_getElem? ha)) (h3l a (List.mem_of_getElem? ha)), .nil, by simp, fun x => by simp⟩⟩ (fun n σ H' _ q => q.2.1.keep _ _ (fun z => nld d z rfl) h4d) ?_ ?_
      · rintro n v σ H5 H5' hn ⟨⟨s2, s3, s4, rfl⟩, k5, inv⟩ ⟨t, key, vv, q, ekv, hq, rfl, ht, rfl⟩
        obtain ⟨x, hx, ex⟩ := key_at ek ekv
        have ex : key = keyI x := ex
        subst ex
        have hxm := List.mem_of_getElem? hx
        obtain ⟨v0, hv0, M, hM, ndM, lM, mM⟩ := fv x hxm
        have ev : vv = v0 := by
          have := (valV_at ek nd ekv hx).1
          rw [hv0] at this
          exact (Option.some.inj this).symm
        subst ev
        have k6 : Ke H5 (upd H5 t (.tup [.ref q, vv])) := Ke.new ht
        have h6t : (upd H5 t (.tup [.ref q, vv])) t = some (.tup [.ref q, vv]) := upd_same
        generalize upd H5 t (.tup [.ref q, vv]) = H6 at k6 h6t ⊢
        rw [keyI_kV] at hq
        have hq6 := k6.at hq
        obtain ⟨ml, mvs, rfl, hml, pM⟩ := hM
        have nml : ml ∉ ls := fun z => by have := freeH _ (hls ml z).1; rw [hml] at this; cases this
        have nmd : ml ≠ d := fun z => by rw [z, hd] at hml; cases hml
        have hml4 := k4.keep _ _ nmd (kk.at hml)
        have k46 : Ks (fun a => a ∈ ls) H4 H6 := k5.trans k6.ks
        have txH4 : Tx H H4 := kk.tx.trans k4.tx
        have lsub : n ≤ W.length := by rw [← lk]; omega
        refine ⟨t, _, rfl, SqT.of h6t, rfl, _, _, rfl, _, _, rfl, rfl, ?_⟩
        refine ⟨_, rfl, ml, rfl, ⟨_, SqL.of (k46.keep _ _ nml hml4)⟩, fo_L (R := TI H) (fun dn σ H' => (∃ s4, σ = [some (.ref d), some (.ref D), some (.ref q), some (.ref ml), s4]) ∧ Ks (fun a => a ∈ ls) H4 H' ∧ Ks (fun a => a ∈ ls) H6 H' ∧ ∀ (m : Nat) y a, W[m]? = some y → ls[m]? = some a → ∃ ws M, H' a = some (.lst ws) ∧ Paired (TI H') ws M ∧ (M.length ≤ n ∨ y ∈ dn ∧ M.length ≤ n + 1) ∧ ∀ z, z ∈ M ↔ (z ∈ W.take n ∧ WS o ks z y) ∨ (z = x ∧ y ∈ dn)) pM
          ⟨⟨_, rfl⟩, k46, .refl, fun m y a hy ha => ?_⟩ (fun dn σ H' g => g.2.1.keep _ _ nml hml4) ?_ ?_⟩
        · obtain ⟨ws, M', h1, h2, h3, h4⟩ := inv m y a hy ha
          exact ⟨ws, M', k6.at h1, pimp (fun v x r => TI.stb _ _ v x k6.tx r) h2, .inl h3, fun z => by rw [h4]; simp⟩
        · rintro dn y r0 v σ H7 e ⟨ya, rfl, hya⟩ ⟨⟨s4, rfl⟩, k7, k67, inv7⟩
          have hya7 := k7.tup _ _ (txH4.tup _ _ hya)
          have hyM : y ∈ M := by rw [e]; simp
          have hyd : y ∉ dn := fun z => by
            rw [e] at ndM
            exact (List.nodup_append.mp ndM).2.2 y z y (by simp) rfl
          have hws := (mM y).mp hyM
          obtain ⟨m, hm⟩ := List.mem_iff_getElem?.mp (cl x hxm y hws)
          obtain ⟨a, ha⟩ : ∃ a, ls[m]? = some a := ⟨_, List.getElem?_eq_getElem (by have := (List.getElem?_eq_some_iff.mp hm).1; omega)⟩
          have ham := List.mem_of_getElem? ha
          obtain ⟨ws, M', h1, h2, h3, h4⟩ := inv7 m y a hm ha
          have h3' : M'.length ≤ n := h3.elim id fun z => absurd z.1 hyd
          have lws := plen h2
          have hD7 := k7.keep _ _ nDl h4D
          have hq7 := k67.tup _ _ hq6
          refine ⟨_, rfl, _, rfl, D, .ref a, rfl, (by rw [← kv_two e2 e2' nd hm ha]; exact DGet.t (k := keyI y) hD7 (by rw [keyI_kV]; exact hya7)), .inl ⟨rfl, _, SqL.of h1⟩, _, rfl, a, ws, .ref q, rfl, rfl, h1, by rw [sizeLine_eq]; omega, ?_⟩
          have tx8 : Tx H7 (upd H7 a (.lst (ws ++ [.ref q]))) := snoc_tx .refl h1
          refine ⟨⟨_, rfl⟩, k7.mut ham (fun ys z => by rw [h1] at z; cases z), k67.mut ham (fun ys z => by rw [h1] at z; cases z), fun m' y' a' hy' ha' => ?_⟩
          by_cases em : m' = m
          · subst em
            rw [hm] at hy'; cases hy'
            rw [ha] at ha'; cases ha'
            refine ⟨_, M' ++ [x], upd_same, papp (pimp (fun v x r => TI.stb _ _ v x tx8 r) h2) (.cons ⟨q, rfl, tx8.tup _ _ hq7⟩ .nil), .inr ⟨by simp, by rw [List.length_append, List.length_singleton]; omega⟩, fun z => ?_⟩
            rw [List.mem_append, h4, List.mem_singleton]
            constructor
            · rintro ((z1 | ⟨z1, z2⟩) | z1)
              · exact .inl z1
              · exact absurd z2 hyd
              · exact .inr ⟨z1, by simp⟩
            · rintro (z1 | ⟨z1, _⟩)
              · exact .inl (.inl z1)
              · exact .inr z1
          · have na : a' ≠ a := fun z => em (by
              subst z
              exact (List.getElem?_inj (List.getElem?_eq_some_iff.mp ha').1 ndl).mp (ha'.trans ha.symm))
            obtain ⟨ws', M2, g1, g2, g3, g4⟩ := inv7 m' y' a' hy' ha'
            have ny : y' ≠ y := fun z => em (by
              subst z
              exact (List.getElem?_inj (List.getElem?_eq_some_iff.mp hy').1 nd).mp (hy'.trans hm.symm))
            refine ⟨ws', M2, by rw [upd_ne na]; exact g1, pimp (fun v x r => TI.stb _ _ v x tx8 r) g2, g3.imp id (fun z => ⟨by simp [z.1], z.2⟩), fun z => ?_⟩
            rw [g4, List.mem_append, List.mem_singleton]
            constructor
            · rintro (z1 | ⟨z1, z2⟩)
              · exact .inl z1
              · exact .inr ⟨z1, .inl z2⟩
            · rintro (z1 | ⟨z1, z2 | z2⟩)
              · exact .inl z1
              · exact .inr ⟨z1, z2⟩
              · exact absurd z2 ny
        · rintro σ H7 ⟨⟨s4, rfl⟩, k7, k67, inv7⟩
          refine ⟨⟨_, _, _, rfl⟩, k7, fun m y a hy ha => ?_⟩
          obtain ⟨ws, M', h1, h2, h3, h4⟩ := inv7 m y a hy ha
          refine ⟨ws, M', h1, h2, h3.elim (fun z => by omega) (fun z => z.2), fun z => ?_⟩
          have et : W.take (n + 1) = W.take n ++ [x] := by rw [List.take_succ, hx]; rfl
          rw [h4, et, List.mem_append, List.mem_singleton]
          constructor
          · rintro (⟨z1, z2⟩ | ⟨z1, z2⟩)
            · exact ⟨.inl z1, z2⟩
            · exact ⟨.inr z1, by rw [z1]; exact (mM y).mp z2⟩
          · rintro ⟨z1 | z1, z2⟩
            · exact .inl ⟨z1, z2⟩
            · exact .inr ⟨z1, (mM y).mpr (by rw [← z1]; exact z2)⟩
      · rintro σ H5 ⟨⟨s2, s3, s4, rfl⟩, k5, inv⟩
        have h5d := k5.keep _ _ (fun z => nld d z rfl) h4d
        have k45 : Ks (fun a => a = d ∨ a ∈ ls) H3 H5 := (k4.mono fun a z => .inl z).trans (k5.mono fun a z => .inr z)
        have kF : Ke H (upd H5 d (.dT kvs)) := by
          refine Ke.of fun a u e => ?_
          by_cases c : a = d
          · subst c; rw [upd_same, ← hd, e]
          · rw [upd_ne c]
            exact k45.keep a u (fun z => z.elim c fun z => by have := freeH a (hls a z).1; rw [e] at this; cases this) (kk.at e)
        have tx5 : Tx H5 (upd H5 d (.dT kvs)) := ⟨fun a xs h => by rw [upd_ne (fun z => by rw [z, h5d] at h; cases h)]; exact h⟩
        refine ⟨h5d, _, rfl, k D _ kF ⟨kv, Nw.new (freeH D hD) (by rw [upd_ne nDd]; exact k5.keep _ _ nDl h4D), e2, fun y hy => ?_⟩⟩
        obtain ⟨m, hm⟩ := List.mem_iff_getElem?.mp hy
        obtain ⟨a, ha⟩ : ∃ a, ls[m]? = some a := ⟨_, List.getElem?_eq_getElem (by have := (List.getElem?_eq_some_iff.mp hm).1; omega)⟩
        have ham := List.mem_of_getElem? ha
        obtain ⟨ws, M, h1, h2, h3, h4⟩ := inv m y a hm ha
        rw [lk] at h3
        rw [lk, List.take_length] at h4
        exact ⟨.ref a, kv_two e2 e2' nd hm ha, M, ⟨a, ws, rfl, Nw.new (freeH a (hls a ham).1) (by rw [upd_ne (nld a ham)]; exact h1), pimp (fun v x r => TI.stb _ _ v x (tx5.trans (Nw.tx kF)) r) h2⟩, by omega, h4⟩
end
end Fd
set_option Elab.async false
set_option linter.all false
set_option maxRecDepth 100000
set_option maxHeartbeats 4000000
namespace Fd
open PySem PySem.Spec PyProof.Rows L2 RZ
/-- there is a last mark against a triple -/
def LaN (o : Ofc) (ks : List (List Int)) (x : List Int) : Prop := ∃ i j c si sj, TrN ks x i j c si sj ∧ lastsA o ks i j c ≠ []
def BadT (o : Ofc) (ks : List (List Int)) (x : List Int) : Prop := ∃ y, WRe o ks x y ∧ LaN o ks y
def BadN (o : Ofc) (ks : List (List Int)) (x : List Int) : Prop := BadT o ks (begM x)
def sp_badp (C CR : Addr) : Sp := fun xs H Q _ => ∃ p o ks d n L, xs = [.ref p, .ref d] ∧ TwAt C CR H p o ks ∧ KD H d L ∧ IsLev o ks n L ∧ ∀ d' H' B, Ke H H' → KD (Nw H H') d' B → (∀ x, x ∈ B ↔ x ∈ L ∧ BadN o ks x) → Q (.ref d') H'
theorem wre_head {o : Ofc} {ks : List (List Int)} {x y z : List Int} (h : WS o ks x y) (w : WRe o ks y z) : WRe o ks x z := by
  induction w with
  | z => exact .s .z h
  | s _ q ih => exact .s ih q
theorem laN_iff {o : Ofc} {ks : List (List Int)} {x : List Int} {i j : Nat} {c : Int} {si sj : List Int} (tn : TrN ks x i j c si sj) : LaN o ks x ↔ lastsA o ks i j c ≠ [] := by
  constructor
  · rintro ⟨i', j', c', si', sj', tn', h⟩
    obtain ⟨rfl, rfl, rfl, rfl, rfl⟩ := trN_uniq tn tn'
    exact h
  · exact fun h => ⟨i, j, c, si, sj, tn, h⟩
/-- the heap while the bad triples are found -/
structure MidB (o : Ofc) (ks W : List (List Int)) (fd wl : Addr) (H0 : Hp) (n : Nat) (F : List (List Int)) (H : Hp) : Prop where
  kk : Ks (fun a => a = fd ∨ a = wl) H0 H
  fo : KD H fd F
  wa : LL TI H (.ref wl) F
  nd : F.Nodup
  ba : ∀ x ∈ F, x ∈ W ∧ BadT o ks x
  cl : ∀ (m : Nat) x, m < n → F[m]? = some x → ∀ z ∈ W, WS o ks z x → z ∈ F
  ini : ∀ x ∈ W, LaN o ks x → x ∈ F
theorem MidB.add {o : Ofc} {ks W : List (List Int)} {fd wl : Addr} {H0 H : Hp} {n : Nat} {F : List (List Int)} {x : List Int} {v q : V} {kvs : List (List Key × V)} {ws : List V} (m : MidB o ks W fd wl H0 n F H) (l2 : n ≤ F.length) (nn : fd ≠ wl) (hx : x ∉ F) (hp : x ∈ W ∧ BadT o ks x)
    (hf : H fd = some (.dT kvs)) (hw : H wl = some (.lst ws)) (hq : TI H q x) : MidB o ks W fd wl H0 n (F ++ [x]) (upd (upd H fd (.dT (putK kvs (keyI x) v))) wl (.lst (ws ++ [q]))) := by
  have tx : Tx H (upd (upd H fd (.dT (putK kvs (keyI x) v))) wl (.lst (ws ++ [q]))) := ⟨fun a xs h => by
    rw [upd_ne (fun z => by rw [z, hw] at h; cases h), upd_ne (fun z => by rw [z, hf] at h; cases h)]; exact h⟩
  obtain ⟨kv', hf', e⟩ := m.fo
  rw [hf] at hf'
  cases hf'
  obtain ⟨wl', ws', ewl, hw', pw⟩ := m.wa
  cases ewl
  rw [hw] at hw'
  cases hw'
  refine ⟨(m.kk.mut (.inl rfl) (fun ys z => by rw [hf] at z; cases z)).mut (.inr rfl) (fun ys z => by rw [upd_ne nn.symm, hw] at z; cases z), ⟨_, by rw [upd_ne nn]; exact upd_same, kd_put e hx⟩, ⟨wl, _, rfl, upd_same, papp (pimp (fun v x r => TI.stb _ _ v x tx r) pw) (.cons (TI.stb _ _ _ _ tx hq) .nil)⟩, L2.nd_snoc m.nd hx, fun y hy => ?_, fun a y ha hy z hz hs => ?_, fun y hy hl => List.mem_append_left _ (m.ini y hy hl)⟩
  · rcases List.mem_append.mp hy with z | z
    · exact m.ba y z
    · rw [List.mem_singleton.mp z]; exact hp
  · rw [List.getElem?_append_left (by omega)] at hy
    exact List.mem_append_left _ (m.cl a y ha hy z hz hs)
section
variable {P : Program} {w : World} {K : PySem.W.Frag} {mg : Str → Option Value} {base : Heap} (T : Txt K mg)
include T
theorem ok_bad_pairs : FnOk P w K mg base CX0 6 T.a_bad_pairs T.d_bad_pairs P_bad_pairs (sp_badp T.a_Twins T.a_Reader) := by
  refine T.F_bad_pairs.ok sc_bad_pairs (fun vs H Q E h => ?_) (fun cdv A outer s H vs Q E hr h => ?_)
  · obtain ⟨p, o, ks, d, n, L, rfl, _⟩ := h; rfl
  · obtain ⟨p, o, ks, d, nl, L, rfl, tw, kdL, lev, k⟩ := h
    have hu := hu_of hr
    have ki := tw.ki
    have cl := tw.cl
    have pL : ∀ x ∈ L, Pn o ks nl x := fun x hx => (lev.2 x).mp hx
    have lL := len_pn ki cl lev.1 pL
    refine ⟨_, (pss_cons (ps_set (i := 2) sc_bad_pairs.nd rfl (Or.inl rfl) (pe_call (ok_all_triples T) (hr.mono (by decide)) rfl T.g_all_triples T.k_all_triples T.b_all_triples .nil pass0 (pa_cons (pv 0) (pa_cons (pv 1) pa_nil))))
  (pss_cons (ps_set (i := 3) sc_bad_pairs.nd rfl (Or.inl rfl) (pe_call (ok_elders_of T) (hr.mono (by decide)) rfl T.g_elders_of T.k_elders_of T.b_elders_of .nil pass0 (pa_cons (pv 2) pa_nil)))
  (pss_cons (ps_lock (ps_setLc (i := 4) (own := [("triple", 8)]) rfl sc_bad_pairs.nd rfl rfl (sw_true rfl rfl rfl (by decide +kernel)) (pi_keys (pv 2)) (blkOk_by (own := [("triple", 8)]) (N := N_bad_pairs) (sc := defScope s_bad_pairs) (by decide +kernel)) (fun _ _ _ _ _ => (pg_name (i := 8) sc_bad_pairs.nd rfl (Or.inl rfl))) (fun _ _ _ _ _ => pts_one (pt_cmpR op_gt (pe_callB (lenK K rfl) (by rfl) T.n_len (by decide +kernel) (pa_cons (pe_call (ok_lasts_against T) (hr.mono (by decide)) rfl T.g_lasts_against T.k_lasts_against T.b_lasts_against .nil pass0 (pa_cons (pv 0) (pa_cons (pv 8) pa_nil))) pa_nil)) pe_int (nomark _))) (fun _ _ _ _ _ => (pv 8))))
  (pss_cons (ps_set (i := 5) sc_bad_pairs.nd rfl (Or.inr rfl) (pe_dcT (own := [("triple", 8)]) hu rfl sc_bad_pairs.nd (pi_list (pv 4)) (blkOk_by (own := [("triple", 8)]) (N := N_bad_pairs) (sc := defScope s_bad_pairs) (by decide +kernel)) (fun _ _ _ _ _ => (pg_name (i := 8) sc_bad_pairs.nd rfl (Or.inl rfl))) (fun _ _ _ _ _ => pts_nil) (fun _ _ _ _ _ => (pv 8)) (fun _ _ _ _ _ => pe_bl)))
  (pss_cons (ps_set (i := 6) sc_bad_pairs.nd rfl (Or.inl rfl) pe_int)
  (pss_cons (ps_while PassesOwn.never (pt_cmpR op_lt (pv 6) (pe_callB call_len (by rfl) T.n_len (by decide +kernel) (pa_cons (pv 4) pa_nil)) (nomark _)) (pss_cons (ps_for PassesOwn.never rfl (pi_list (pe_dget hu (pv 3) (pe_ix ix_list (pv 4) (pv 6) (fun _ _ => rfl)) (fun _ _ => rfl))) (pg_name (i := 7) sc_bad_pairs.nd rfl (Or.inl rfl)) (pss_one (ps_if (pt_cmp (pc_dnotin hu (pv 7) (pv 5))) (pss_cons (ps_dput hu (pv 5) (pv 7) pe_bl rfl)
  (pss_one (ps_expr (pe_bm PySem.F.plainAttrs_list PySem.F.slot_list_append PySem.F.type_list_append mt_append (pv 4) (pa_cons (pv 7) pa_nil))))) pss_nil)))
  (pss_one (ps_aug (i := 6) sc_bad_pairs.nd rfl (Or.inl rfl) pe_int ip_add))))
  (pss_one (ps_ret (pe_lock (pe_dcT (own := [("pair", 9)]) hu rfl sc_bad_pairs.nd (pi_keys (pv 1)) (blkOk_by (own := [("pair", 9)]) (N := N_bad_pairs) (sc := defScope s_bad_pairs) (by decide +kernel)) (fun _ _ _ _ _ => (pg_name (i := 9) sc_bad_pairs.nd rfl (Or.inl rfl))) (fun _ _ _ _ _ => pts_one (pt_cmp (pc_din hu (pe_call (ok_begin_triple T) (hr.mono (by decide)) rfl T.g_begin_triple T.k_begin_triple T.b_begin_triple .nil pass0 (pa_cons (pv 9) pa_nil)) (pv 5)))) (fun _ _ _ _ _ => (pv 9)) (fun _ _ _ _ _ => pe_bl))))))))))), ?_⟩
    refine ⟨_, rfl, _, rfl, p, o, ks, d, nl, L, rfl, tw, kdL, lev, fun d1 H1 W k1 tab ndW mW => stepN ?_⟩
    have trW : ∀ x ∈ W, IsTr ks x := fun x hx => from_tr ki cl pL ((mW x).mp hx)
    have lW := len_tr ki cl ndW trW
    have clW : ∀ x ∈ W, ∀ y, WS o ks x y → y ∈ W := fun x hx y hs => by
      obtain ⟨q, hq, w⟩ := (mW x).mp hx
      exact (mW y).mpr ⟨q, hq, .s w hs⟩
    have clWre : ∀ x ∈ W, ∀ y, WRe o ks x y → y ∈ W := fun x hx y h => by
      induction h with
      | z => exact hx
      | s _ q ih => exact clW _ ih _ q
    have tab1 : TabD (NxL o ks) H1 d1 W := tab.sto NxL.sto (Le.ke Nw.le)
    refine ⟨_, rfl, o, ks, d1, W, rfl, tab1, ndW, by omega, clW, fun d2 H2 k2 tab2 => stepN ?_⟩
    dsimp only
    obtain ⟨kv1, h1d1, e1, _⟩ := tab
    obtain ⟨n1, h1d1⟩ := Hd.at h1d1
    have hd10 : H d1 = none := by
      cases c : H d1 with
      | none => rfl
      | some u =>
        have := k1.at c
        rw [h1d1] at this
        cases this
        exact absurd (.dT c) n1
    obtain ⟨kv2, h2d2, e2, f2⟩ := tab2
    obtain ⟨n2, h2d2⟩ := Hd.at h2d2
    have hd20 : H1 d2 = none := by
      cases c : H1 d2 with
      | none => rfl
      | some u =>
        have := k2.at c
        rw [h2d2] at this
        cases this
        exact absurd (.dT c) n2
    have n12 : d1 ≠ d2 := fun z => by rw [← z, h1d1] at hd20; cases hd20
    have h2d1 := k2.at h1d1
    have k02 := k1.trans k2
    -- waiting
    refine ⟨d1, _, h2d1, True.intro, fun od => ?_⟩
    have h3d1 : (upd H2 d1 (.frz od (.dT kv1))) d1 = some (.frz od (.dT kv1)) := upd_same
    have k3 : Ks (fun a => a = d1) H2 (upd H2 d1 (.frz od (.dT kv1))) := lock_ks h2d1 (fun xs z => by cases z)
    generalize upd H2 d1 (.frz od (.dT kv1)) = H3 at k3 h3d1 ⊢
    have kH3 : Ke H H3 := Ke.of fun a u e => k3.keep a u (fun z => by rw [z, hd10] at e; cases e) (k02.at e)
    have trx : ∀ x ∈ W, ∃ i j c si sj, TrN ks x i j c si sj := trW
    open Classical in
    refine ⟨_, rfl, d1, od, rfl, .inr ⟨kv1, h3d1, fun wl hwl => lc_W (R := TI) walk_keysT (TI.stb.sto) W (fun x => decide (LaN o ks x)) id hwl (by rw [sizeLine_eq]; omega) (kd_len e1).symm (fun H4 k4 => k4.at h3d1) (fun i H4 v H5 k4 y => ?_) ?_ ?_⟩⟩
    · obtain ⟨rfl, kk, vv, q, ekv, rfl, hq⟩ := y
      obtain ⟨x, hx, ex⟩ := key_at e1 ekv
      have ex : kk = keyI x := ex
      exact ⟨rfl, x, hx, q, rfl, by rw [hq, ex, keyI_kV]⟩
    · rintro v x H4 hx ⟨q, rfl, hq⟩ k4 nD Z Z' z z'
      obtain ⟨i, j, c, si, sj, tn⟩ := trx x hx
      refine ⟨rfl, ?_⟩
      refine ⟨_, rfl, _, rfl, p, o, ks, .ref q, x, i, j, c, si, sj, rfl, tw.ke (kH3.trans k4), ⟨q, rfl, hq⟩, tn, fun v' H5 k5 hv => ?_⟩
      obtain ⟨la, lvs, rfl, hla, pla⟩ := hv
      have ll := plen pla
      refine ⟨.ref la, lvs.length, rfl, .inl ⟨_, SqL.of hla, rfl⟩, _, _, rfl, rfl, _, rfl, ?_⟩
      by_cases c0 : LaN o ks x
      · have := (laN_iff tn).mp c0
        have lp := List.length_pos_iff.mpr this
        exact iteT' (decide_eq_true (show ((lvs.length : Nat) : Int) > 0 by omega)) ⟨_, rfl, z (decide_eq_true c0) _ _ k5 ⟨q, rfl, (Nw.tx k5).tup _ _ (k5.at hq)⟩⟩
      · have : lastsA o ks i j c = [] := Classical.byContradiction fun h => c0 ((laN_iff tn).mpr h)
        rw [this, List.length_nil] at ll
        exact iteF' (fun h => by have h' : ((lvs.length : Nat) : Int) > 0 := of_decide_eq_true h; omega) (z' (decide_eq_false c0) _ k5)
    · intro H4 k4 hl
      rw [List.map_id] at hl
      obtain ⟨wl', ws0, ewl, hw4, pw0⟩ := hl
      cases ewl
      obtain ⟨_, hw4⟩ := Hd.at hw4
      have h4d1 := k4.at h3d1
      have nwd1 : wl ≠ d1 := fun z => by rw [z, h4d1] at hw4; cases hw4
      have hwl3 : H3 wl = none := hwl
      have hwl2 : H2 wl = none := k3.free hwl3
      have k24 : Ke H2 (upd H4 d1 (.dT kv1)) := lock_ke h2d1 (fun xs z => by cases z) (k3.trans k4.ks)
      have h5w : (upd H4 d1 (.dT kv1)) wl = some (.lst ws0) := by rw [upd_ne nwd1]; exact hw4
      have tx5 : Tx (Nw H3 H4) (upd H4 d1 (.dT kv1)) := ⟨fun a xs h => by
        have h' := (Hd.at h).2
        rw [upd_ne (fun z => by rw [z, h4d1] at h'; cases h')]; exact h'⟩
      refine ⟨h4d1, stepN ?_⟩
      have pw0 := pimp (fun v x r => TI.stb _ _ v x tx5 r) pw0
      generalize upd H4 d1 (.dT kv1) = H5 at k24 h5w pw0 ⊢
      clear tx5
      have k05 := k02.trans k24
      have ndF : (W.filter fun x => decide (LaN o ks x)).Nodup := ndW.sublist List.filter_sublist
      have inF : ∀ x, x ∈ (W.filter fun x => decide (LaN o ks x)) ↔ x ∈ W ∧ LaN o ks x := fun x => by
        rw [List.mem_filter]
        exact ⟨fun h => ⟨h.1, of_decide_eq_true h.2⟩, fun h => ⟨h.1, decide_eq_true h.2⟩⟩
      generalize hF0 : (W.filter fun x => decide (LaN o ks x)) = F0 at pw0 ndF inF
      have lF0 := plen pw0
      have lenF : ∀ F : List (List Int), F.Nodup → (∀ x ∈ F, x ∈ W) → F.length ≤ 219600 := fun F h g => Nat.le_trans (len_sub h g) lW
      have lF1 := lenF F0 ndF fun x hx => ((inF x).mp hx).1
      dsimp only
      -- found
      refine ⟨_, rfl, wl, rfl, ⟨_, SqL.of h5w⟩, fun fd hfd => ?_⟩
      have nfw : fd ≠ wl := fun z => by rw [z, h5w] at hfd; cases hfd
      refine dc_itT (walk_list (xs := ws0)) (fun i H' => Ke H5 H' ∧ ∃ kv, H' fd = some (.dT kv) ∧ kv.map (·.1) = (F0.take i).map keyI) ⟨Ke.new hfd, [], upd_same, rfl⟩ (fun i H' _ p => SqL.of (p.1.at h5w)) ?_ ?_
      · rintro i v H6 H7 hi ⟨k6, kv, hf6, e6⟩ ⟨rfl, ev⟩
        obtain ⟨x, ex, qa, rfl, hqa⟩ := pgetL pw0 ev
        have hx : x ∉ F0.take i := fun z => by
          obtain ⟨a, ha⟩ := List.mem_iff_getElem?.mp z
          have hlt := (List.getElem?_eq_some_iff.mp ha).1
          rw [List.length_take] at hlt
          rw [List.getElem?_take, if_pos (by omega)] at ha
          have := (List.getElem?_inj (by omega) ndF).mp (ha.trans ex.symm)
          omega
        have lk := kd_len e6
        rw [List.length_take] at lk
        refine ⟨rfl, yesT ?_⟩
        refine ⟨_, rfl, kv, keyI x, qa, rfl, (by rw [keyI_kV]; exact k6.at hqa), hf6, by rw [sizeLine_eq]; omega, k6.mutNew hfd, _, upd_same, ?_⟩
        have et : F0.take (i + 1) = F0.take i ++ [x] := by rw [List.take_succ, ex]; rfl
        rw [et]
        exact kd_put e6 hx
      · rintro H6 ⟨k6, kv, hf6, e6⟩
        rw [lF0, List.take_length] at e6
        have k06 := k05.trans k6
        have hfd0 : H fd = none := k05.free hfd
        have hwl0 : H wl = none := k02.free hwl2
        have nS : ∀ a, (a = fd ∨ a = wl) → H a = none := by
          rintro a (rfl | rfl)
          · exact hfd0
          · exact hwl0
        have hw6 := k6.at h5w
        have pw6 := pimp (fun v x r => TI.stb _ _ v x k6.tx r) pw0
        -- the elders stay
        have h6d2 := k6.at (k24.at h2d2)
        have nd2f : d2 ≠ fd := fun z => by rw [z] at h2d2; rw [k24.free hfd] at h2d2; cases h2d2
        have nd2w : d2 ≠ wl := fun z => by rw [z] at h2d2; rw [hwl2] at h2d2; cases h2d2
        have f6 : ∀ x ∈ W, ∃ v, valV kv2 (keyI x) = some v ∧ PvL o ks W (Hd (fun a => a = fd ∨ a = wl) H6) v x := fun x hx => by
          obtain ⟨v, g1, g2⟩ := f2 x hx
          refine ⟨v, g1, PvL.sto _ _ _ _ (Le.ke fun a u e => ?_) g2⟩
          have e' := (Hd.at e).2
          refine Hd.get (fun z => ?_) (k6.at (k24.at e'))
          rcases z with z | z
          · rw [z, k24.free hfd] at e'; cases e'
          · rw [z, hwl2] at e'; cases e'
        refine stepN ?_
        dsimp only
        refine stepA ?_
        have m0 : MidB o ks W fd wl H6 0 F0 H6 := ⟨.refl, ⟨kv, hf6, e6⟩, ⟨wl, ws0, rfl, hw6, pw6⟩, ndF, fun x hx => ⟨((inF x).mp hx).1, x, .z, ((inF x).mp hx).2⟩, fun m x hm => by omega, fun x hx hl => (inF x).mpr ⟨hx, hl⟩⟩
        refine seqJ (fun σ' H' => ∃ F : List (List Int), (∃ n s7 s8 s9, σ' = [some (.ref p), some (.ref d), some (.ref d1), some (.ref d2), some (.ref wl), some (.ref fd), n, s7, s8, s9]) ∧ MidB o ks W fd wl H6 F.length F H') (fun nx fin => ?_) ?_
        · refine while_by (fun σ H' => ∃ (n : Nat) (F : List (List Int)), (∃ s7 s8 s9, σ = [some (.ref p), some (.ref d), some (.ref d1), some (.ref d2), some (.ref wl), some (.ref fd), some (.int n), s7, s8, s9]) ∧ n ≤ F.length ∧ MidB o ks W fd wl H6 n F H') (fun σ H' => far 300000 6 σ) ⟨0, F0, ⟨_, _, _, rfl⟩, Nat.zero_le _, m0⟩ ?_ ?_
          · rintro σ H7 ⟨n, F, ⟨s7, s8, s9, rfl⟩, hn, m⟩
            obtain ⟨wl', ws, ewl, hw7, pw7⟩ := m.wa
            cases ewl
            have lw := plen pw7
            have lF := lenF F m.nd fun x hx => (m.ba x hx).1
            refine ⟨_, rfl, _, rfl, .ref wl, ws.length, rfl, .inl ⟨_, SqL.of hw7, rfl⟩, _, _, rfl, rfl, _, rfl, ite2 (fun c => ?_) (fun c => ?_)⟩
            · have hlt : n < F.length := by have := of_decide_eq_true c; omega
              obtain ⟨x, hx⟩ : ∃ x, F[n]? = some x := ⟨_, List.getElem?_eq_getElem hlt⟩
              have hxm := List.mem_of_getElem? hx
              obtain ⟨hxW, hxb⟩ := m.ba x hxm
              obtain ⟨xv, hxv, xa, rfl, hxa⟩ := pget pw7 hx
              obtain ⟨v, hv, M, ⟨ml, mvs, rfl, hml, pM⟩, lM, mM⟩ := f6 x hxW
              obtain ⟨nml, hml⟩ := Hd.at hml
              have hml7 := m.kk.keep _ _ nml hml
              have h7d2 := m.kk.keep _ _ (fun z => z.elim nd2f nd2w) h6d2
              refine ⟨_, rfl, _, rfl, _, rfl, wl, ws, (n : Int), .ref xa, rfl, rfl, SqL.of hw7, atI_nat hxv rfl, d2, .ref ml, rfl, (by rw [← hv]; exact DGet.t (k := keyI x) h7d2 (by rw [keyI_kV]; exact hxa)), ?_⟩
              refine ⟨ml, rfl, ⟨_, SqL.of hml7⟩, fo_L (R := TI (Hd (fun a => a = fd ∨ a = wl) H6)) (fun dn σ H' => (∃ s7 s8 s9, σ = [some (.ref p), some (.ref d), some (.ref d1), some (.ref d2), some (.ref wl), some (.ref fd), some (.int n), s7, s8, s9]) ∧ Ks (fun a => a = fd ∨ a = wl) H7 H' ∧ ∃ r : List (List Int), MidB o ks W fd wl H6 n (F ++ r) H' ∧ ∀ y ∈ dn, y ∈ F ++ r) pM
                ⟨⟨_, _, _, rfl⟩, .refl, [], by rw [List.append_nil]; exact m, fun y hy => by cases hy⟩ (fun dn σ H' g => g.2.1.keep _ _ nml hml7) ?_ ?_⟩
              · rintro dn y r0 v σ H8 e ⟨ya, rfl, hya⟩ ⟨⟨s7, s8, s9, rfl⟩, k8, r, m8, hin⟩
                have hya8 := ((Le.ke Hd.le).tx.trans (m.kk.tx.trans k8.tx)).tup _ _ hya
                obtain ⟨hyW, hyx⟩ := (mM y).mp (by rw [e]; simp)
                have hyb : BadT o ks y := by
                  obtain ⟨z, hz, hl⟩ := hxb
                  exact ⟨z, wre_head hyx hz, hl⟩
                obtain ⟨kv8, hf8, e8⟩ := m8.fo
                obtain ⟨wl', ws8, ewl, hw8, pw8⟩ := m8.wa
                cases ewl
                have lk8 := kd_len e8
                have l8 := lenF _ m8.nd fun x hx => (m8.ba x hx).1
                have lw8 := plen pw8
                refine ⟨_, rfl, _, rfl, fd, _, rfl, DGet.t (k := keyI y) hf8 (by rw [keyI_kV]; exact hya8), _, rfl, ?_⟩
                rw [kd_val e8]
                by_cases c : y ∈ F ++ r
                · refine iteF' (by simp [c]) (stepT ⟨⟨_, _, _, rfl⟩, k8, r, m8, fun y' hy' => ?_⟩)
                  rcases List.mem_append.mp hy' with z | z
                  · exact hin y' z
                  · rw [List.mem_singleton.mp z]; exact c
                · refine iteT' (by simp [c]) ?_
                  refine ⟨_, rfl, _, rfl, fd, _, rfl, DPut.t (k := keyI y) hf8 (by rw [keyI_kV]; exact hya8) (by rw [sizeLine_eq]; omega), ?_⟩
                  refine ⟨_, rfl, .inl ⟨rfl, _, SqL.of (by rw [upd_ne nfw.symm]; exact hw8)⟩, _, rfl, wl, ws8, .ref ya, rfl, rfl, by rw [upd_ne nfw.symm]; exact hw8, by rw [sizeLine_eq]; omega, ⟨_, _, _, rfl⟩, ?_, r ++ [y], ?_, fun y' hy' => ?_⟩
                  · exact (k8.mut (.inl rfl) (fun ys z => by rw [hf8] at z; cases z)).mut (.inr rfl) (fun ys z => by rw [upd_ne nfw.symm, hw8] at z; cases z)
                  · rw [← List.append_assoc]
                    exact m8.add (by rw [List.length_append]; omega) nfw c ⟨hyW, hyb⟩ hf8 hw8 ⟨ya, rfl, hya8⟩
                  · rw [← List.append_assoc]
                    rcases List.mem_append.mp hy' with z | z
                    · exact List.mem_append_left _ (hin y' z)
                    · rw [List.mem_singleton.mp z]; simp
              · rintro σ H8 ⟨⟨s7, s8, s9, rfl⟩, k8, r, m8, hin⟩
                refine ⟨_, rfl, _, _, rfl, rfl, ⟨n + 1, F ++ r, ⟨_, _, _, rfl⟩, by rw [List.length_append]; omega, ⟨m8.kk, m8.fo, m8.wa, m8.nd, m8.ba, fun a y ha hy z hz hs => ?_, m8.ini⟩⟩, ?_⟩
                · by_cases ea : a = n
                  · subst ea
                    rw [List.getElem?_append_left hlt, hx] at hy
                    have e1 := Option.some.inj hy
                    subst e1
                    exact hin z ((mM z).mpr ⟨hz, hs⟩)
                  · exact m8.cl a y (by omega) hy z hz hs
                · show 300000 - ((n : Int) + 1).toNat < 300000 - (n : Int).toNat
                  omega
            · have en : n = F.length := by
                have : ¬ ((n : Int) < (ws.length : Nat)) := fun z => c (decide_eq_true z)
                omega
              subst en
              exact fin _ _ ⟨F, ⟨_, _, _, _, rfl⟩, m⟩
          · intro σ H' Q Q' hq h
            obtain ⟨v, e1, v', e2, x, n, e3, l1, i, j, e5, e6, b, e7, q⟩ := h
            exact ⟨v, e1, v', e2, x, n, e3, l1, i, j, e5, e6, b, e7, hq _ _ q⟩
        · rintro σ H7 ⟨F, ⟨n, s7, s8, s9, rfl⟩, m⟩
          have memF : ∀ x ∈ W, (x ∈ F ↔ BadT o ks x) := fun x hx => ⟨fun h => (m.ba x h).2, fun ⟨y, hw, hl⟩ => by
            have all : ∀ y, WRe o ks x y → y ∈ F → x ∈ F := fun y h => by
              induction h with
              | z => exact fun z => z
              | @s y z hy hs ih =>
                intro hz
                obtain ⟨a, ha⟩ := List.mem_iff_getElem?.mp hz
                exact ih (m.cl a z (List.getElem?_eq_some_iff.mp ha).1 ha y (clWre x hx y hy) hs)
            exact all y hw (m.ini y (clWre x hx y hw) hl)⟩
          have kk7 : Ke H H7 := Ke.then k06 m.kk nS
          obtain ⟨kvL, hdL, eL⟩ := kdL
          have h7d := kk7.at hdL
          obtain ⟨kvF, hf7, eF⟩ := m.fo
          have nfd : fd ≠ d := fun z => by rw [z, hdL] at hfd0; cases hfd0
          have lkL := kd_len eL
          refine ⟨d, _, h7d, True.intro, fun od2 => ?_⟩
          have h8d : (upd H7 d (.frz od2 (.dT kvL))) d = some (.frz od2 (.dT kvL)) := upd_same
          have k8 : Ks (fun a => a = d) H7 (upd H7 d (.frz od2 (.dT kvL))) := lock_ks h7d (fun xs z => by cases z)
          generalize upd H7 d (.frz od2 (.dT kvL)) = H8 at k8 h8d ⊢
          have h8f := k8.keep _ _ nfd hf7
          open Classical in
          refine ⟨_, rfl, d, od2, rfl, .inr ⟨kvL, h8d, fun D hD => dc_itT walk_keysT (fun i H' => Ke H8 H' ∧ ∃ kv, H' D = some (.dT kv) ∧ kv.map (·.1) = ((L.take i).filter fun x => decide (BadN o ks x)).map keyI) ⟨Ke.new hD, [], upd_same, rfl⟩ (fun i H' _ q => q.1.at h8d) ?_ ?_⟩⟩
          · rintro i v H9 H9' hi ⟨k9, kv, h9D, e9⟩ ⟨rfl, key, vv, q, ekv, rfl, hq⟩
            obtain ⟨x, hx, ex⟩ := key_at eL ekv
            have ex : key = keyI x := ex
            subst ex
            rw [keyI_kV] at hq
            have hxm := List.mem_of_getElem? hx
            have hbW : begM x ∈ W := (mW _).mpr ⟨x, hxm, .z⟩
            obtain ⟨i', j', si, sj, rfl, hi', hj', lv⟩ := pL x hxm
            have ht := filter_take (fun x => decide (BadN o ks x)) hx
            have lkv := kd_len e9
            have lfl : ((L.take i).filter fun x => decide (BadN o ks x)).length ≤ 3600 := Nat.le_trans (List.length_filter_le _ _) (by rw [List.length_take]; omega)
            refine ⟨rfl, ?_⟩
            refine ⟨_, rfl, .ref q, (i' : Int), (j' : Int), rfl, ⟨q, rfl, hq⟩, fun v' H10 k10 hv => ?_⟩
            obtain ⟨b, rfl, hb⟩ := hv
            have hk9 := k9.trans k10
            refine ⟨_, rfl, fd, _, rfl, DGet.t (k := keyI (begM [(i' : Int), (j' : Int)])) (hk9.at h8f) (by rw [keyI_kV]; exact hb), _, rfl, ?_⟩
            rw [kd_val eF]
            by_cases c : BadN o ks [(i' : Int), (j' : Int)]
            · have c1 : begM [(i' : Int), (j' : Int)] ∈ F := (memF _ hbW).mpr c
              rw [if_pos (decide_eq_true c)] at ht
              refine iteT' (by simp [c1]) ⟨_, rfl, kv, keyI [(i' : Int), (j' : Int)], q, rfl, (by rw [keyI_kV]; exact k10.at hq), k10.at h9D, by rw [sizeLine_eq]; omega, hk9.mutNew hD, _, upd_same, ?_⟩
              rw [ht]
              refine kd_put e9 fun z => ?_
              obtain ⟨a, ha⟩ := List.mem_iff_getElem?.mp (List.mem_filter.mp z).1
              have hlt := (List.getElem?_eq_some_iff.mp ha).1
              rw [List.length_take] at hlt
              rw [List.getElem?_take, if_pos (by omega)] at ha
              have := (List.getElem?_inj (by omega) lev.1).mp (ha.trans hx.symm)
              omega
            · have c1 : begM [(i' : Int), (j' : Int)] ∉ F := fun z => c ((memF _ hbW).mp z)
              rw [if_neg (by simp [c])] at ht
              refine iteF' (by simp [c1]) ⟨hk9, kv, k10.at h9D, ?_⟩
              rw [ht]
              exact e9
          · rintro H9 ⟨k9, kv, h9D, e9⟩
            rw [lkL, List.take_length] at e9
            have h9d := k9.at h8d
            have nDd : D ≠ d := fun z => by rw [z, h9d] at h9D; cases h9D
            have kF : Ke H7 (upd H9 d (.dT kvL)) := lock_ke h7d (fun xs z => by cases z) (k8.trans k9.ks)
            have hD7 : H7 D = none := k8.free hD
            refine ⟨h9d, k D _ _ (kk7.trans kF) ⟨kv, Nw.new (kk7.free hD7) (by rw [upd_ne nDd]; exact h9D), e9⟩ fun x => ?_⟩
            rw [List.mem_filter]
            exact ⟨fun h => ⟨h.1, of_decide_eq_true h.2⟩, fun h => ⟨h.1, decide_eq_true h.2⟩⟩
end
end Fd
set_option Elab.async false
set_option linter.all false
set_option maxRecDepth 100000
set_option maxHeartbeats 4000000
/-! Bad pairs, by numbers and by sets. -/
namespace Fd
open PySem PySem.Spec PyProof.Rows L2
def StN (ks : List (List Int)) (c : Int) : List Int := if c = -1 then [] else ks.getD c.toNat []
theorem stN_nat {ks : List (List Int)} {i : Nat} {s : List Int} (h : ks[i]? = some s) : StN ks (i : Int) = s := by
  unfold StN
  rw [if_neg (by omega), List.getD_eq_getElem?_getD, show (i : Int).toNat = i from by omega, h]; rfl
theorem goals_nil {o : Ofc} {st : List Int} : goalsM o [] st = [] := rfl
theorem lasts_nil {o : Ofc} : lastsM o [] = [] := rfl
theorem lastsN_st {o : Ofc} {ks : List (List Int)} (c : Int) : lastsN o ks c = lastsM o (StN ks c) := by
  unfold lastsN StN
  split
  · rfl
  · rfl
section
variable {o : Ofc} {ks : List (List Int)} (k : KsI o ks) (cl : Closed o ks ks.length)
include k cl
theorem st_behind {c : Int} {st : List Int} (nc : NumOk ks c) (hs : st ∈ stepsOf o) : StN ks (behindM o ks c st) = goalsM o (StN ks c) st := by
  rcases nc with rfl | ⟨h0, h1⟩
  · have e : behindM o ks (-1) st = -1 := by unfold behindM; exact if_neg fun h => by have := h.1; omega
    rw [e]
    show [] = goalsM o [] st
    rfl
  · obtain ⟨i, rfl⟩ : ∃ i : Nat, c = (i : Int) := ⟨c.toNat, by omega⟩
    obtain ⟨s, hi⟩ : ∃ s, ks[i]? = some s := ⟨_, List.getElem?_eq_getElem (by omega)⟩
    rw [stN_nat hi]
    rcases behind_at hi hs with ⟨g, e⟩ | ⟨g, e⟩
    · rw [e]
      exact stN_nat (idx_get (cl i s (List.getElem?_eq_some_iff.mp hi).1 hi st hs g))
    · rw [e, g]; rfl
theorem wre_tr {i j : Nat} {si sj y : List Int} (hi : ks[i]? = some si) (hj : ks[j]? = some sj) (h : WRe o ks (begM [(i : Int), (j : Int)]) y) :
    ∃ i' j' c si' sj', TrN ks y i' j' c si' sj' ∧ Tr o (si, sj, si) (si', sj', StN ks c) := by
  induction h with
  | z => exact ⟨i, j, (i : Int), si, sj, ⟨rfl, hi, hj, .inr ⟨by omega, by have := (List.getElem?_eq_some_iff.mp hi).1; omega⟩⟩, by rw [stN_nat hi]; exact .z⟩
  | @s y z _ hs ih =>
    obtain ⟨i', j', c, si', sj', tn, tr⟩ := ih
    obtain ⟨i2, j2, c2, si2, sj2, t, tn2, ⟨t1, t2, t3, t4, t5, t6⟩, ez⟩ := hs
    obtain ⟨rfl, rfl, rfl, rfl, rfl⟩ := trN_uniq tn tn2
    obtain ⟨_, hi', hj', nc⟩ := tn
    have m1 := cl _ si' (List.getElem?_eq_some_iff.mp hi').1 hi' _ t1 t4
    have m2 := cl _ sj' (List.getElem?_eq_some_iff.mp hj').1 hj' _ t2 t5
    refine ⟨_, _, _, _, _, ⟨ez.trans t6, idx_get m1, idx_get m2, behind_ok k cl c _⟩, ?_⟩
    rw [st_behind k cl nc t2]
    exact .s tr ⟨_, t1, _, t2, t3, rfl, t4, t5⟩
theorem tr_wre {i j : Nat} {si sj : List Int} (hi : ks[i]? = some si) (hj : ks[j]? = some sj) {t : TrS} (h : Tr o (si, sj, si) t) :
    ∃ y i' j' c, WRe o ks (begM [(i : Int), (j : Int)]) y ∧ TrN ks y i' j' c t.1 t.2.1 ∧ StN ks c = t.2.2 := by
  induction h with
  | z => exact ⟨_, i, j, (i : Int), .z, ⟨rfl, hi, hj, .inr ⟨by omega, by have := (List.getElem?_eq_some_iff.mp hi).1; omega⟩⟩, stN_nat hi⟩
  | @s u v _ hs ih =>
    obtain ⟨y, i', j', c, w, tn, es⟩ := ih
    obtain ⟨st, h1, st', h2, hm, rfl, n1, n2⟩ := hs
    obtain ⟨ey, hi', hj', nc⟩ := id tn
    have m1 := cl _ _ (List.getElem?_eq_some_iff.mp hi').1 hi' _ h1 n1
    have m2 := cl _ _ (List.getElem?_eq_some_iff.mp hj').1 hj' _ h2 n2
    refine ⟨_, _, _, behindM o ks c st', .s w ⟨i', j', c, _, _, ([((ks.idxOf (goalsM o u.1 st) : Nat) : Int), ((ks.idxOf (goalsM o u.2.1 st') : Nat) : Int), behindM o ks c st'], st, st'), tn, ⟨h1, h2, hm, n1, n2, rfl⟩, rfl⟩, ⟨rfl, idx_get m1, idx_get m2, behind_ok k cl c _⟩, ?_⟩
    rw [st_behind k cl nc h2, es]
omit k cl in
theorem laN_la {y : List Int} {i j : Nat} {c : Int} {si sj : List Int} (tn : TrN ks y i j c si sj) : LaN o ks y ↔ La o (si, sj, StN ks c) := by
  rw [laN_iff tn]
  obtain ⟨_, hi, hj, _⟩ := tn
  have e1 : lastsN o ks (i : Int) = lastsM o si := by rw [lastsN_st, stN_nat hi]
  have e2 : lastsN o ks (j : Int) = lastsM o sj := by rw [lastsN_st, stN_nat hj]
  unfold lastsA La
  rw [e1, e2, lastsN_st]
  constructor
  · intro h
    obtain ⟨m, hm⟩ := List.exists_mem_of_ne_nil _ h
    obtain ⟨h1, h2⟩ := List.mem_filter.mp hm
    obtain ⟨h3, h4⟩ := List.mem_filter.mp h1
    exact ⟨m, h3, of_decide_eq_true h4, of_decide_eq_true h2⟩
  · rintro ⟨m, h1, h2, h3⟩ e
    have : m ∈ ((lastsM o si).filter fun m => decide (m ∈ lastsM o sj)).filter fun m => decide (m ∉ lastsM o (StN ks c)) := List.mem_filter.mpr ⟨List.mem_filter.mpr ⟨h1, decide_eq_true h2⟩, decide_eq_true h3⟩
    rw [e] at this
    cases this
theorem badN_bd {i j : Nat} {si sj : List Int} (hi : ks[i]? = some si) (hj : ks[j]? = some sj) : BadN o ks [(i : Int), (j : Int)] ↔ Bd o (si, sj) := by
  constructor
  · rintro ⟨y, w, l⟩
    obtain ⟨i', j', c, si', sj', tn, tr⟩ := wre_tr k cl hi hj w
    exact ⟨_, tr, (laN_la tn).mp l⟩
  · rintro ⟨t, tr, l⟩
    obtain ⟨y, i', j', c, w, tn, es⟩ := tr_wre k cl hi hj tr
    exact ⟨y, w, (laN_la tn).mpr (by rw [es]; exact l)⟩
theorem bad_pair {n : Nat} {x : List Int} (h : Pn o ks n x) (b : BadN o ks x) : ∃ p, Lv o n p ∧ Bd o p := by
  obtain ⟨i, j, si, sj, rfl, hi, hj, lv⟩ := h
  exact ⟨_, lv, (badN_bd k cl hi hj).mp b⟩
theorem none_bad {n : Nat} {L : List (List Int)} (lev : IsLev o ks n L) (h : ∀ x ∈ L, ¬ BadN o ks x) : EnK o n := fun p lv b => by
  have r := lv.reach
  have m1 := idx_get (r.1.ks k cl)
  have m2 := idx_get (r.2.ks k cl)
  exact h _ ((lev.2 _).mpr ⟨_, _, _, _, rfl, m1, m2, lv⟩) ((badN_bd k cl m1 m2).mpr b)
omit k cl in
theorem lev_sub {n : Nat} {L M : List (List Int)} (h : IsLev o ks n L) (g : IsLev o ks (n + 1) M) : ∀ x ∈ M, x ∈ L := fun x hx => by
  obtain ⟨i, j, si, sj, e, hi, hj, lv⟩ := (g.2 x).mp hx
  exact (h.2 x).mpr ⟨i, j, si, sj, e, hi, hj, lv.sub⟩
/-- a level as long as the one ahead is the same -/
theorem lev_still {n : Nat} {L M : List (List Int)} (h : IsLev o ks n L) (g : IsLev o ks (n + 1) M) (e : L.length = M.length) : ∀ p, Lv o n p → Lv o (n + 1) p := fun p lv => by
  have r := lv.reach
  have m1 := idx_get (r.1.ks k cl)
  have m2 := idx_get (r.2.ks k cl)
  have hx := (h.2 _).mpr ⟨_, _, _, _, rfl, m1, m2, lv⟩
  have hM : [((ks.idxOf p.1 : Nat) : Int), ((ks.idxOf p.2 : Nat) : Int)] ∈ M := Classical.byContradiction fun hn => by
    have := len_sub (a := [((ks.idxOf p.1 : Nat) : Int), ((ks.idxOf p.2 : Nat) : Int)] :: M) (b := L) (List.nodup_cons.mpr ⟨hn, g.1⟩) fun x hx' => by
      rcases List.mem_cons.mp hx' with z | z
      · rw [z]; exact hx
      · exact lev_sub h g x z
    rw [List.length_cons] at this
    omega
  obtain ⟨i, j, si, sj, e, hi, hj, lv'⟩ := (g.2 _).mp hM
  obtain ⟨rfl, rfl⟩ := nat_pair e
  rw [m1] at hi; cases hi
  rw [m2] at hj; cases hj
  exact lv'
end
end Fd
set_option Elab.async false
set_option linter.all false
set_option maxRecDepth 100000
set_option maxHeartbeats 4000000
namespace Fd
open PySem PySem.Spec PyProof.Rows L2 RZ
/-- what stands for the least number -/
def lkV : Option Nat → V
  | none => .non
  | some n => .int ((n + 1 : Nat) : Int)
/-- how many keys the dict in a slot has -/
def keysN (i : Nat) (σ : L2.St) (H : Hp) : Nat := match σ[i]? with
  | some (some (L2.V.ref d)) => (match H d with
    | some (.dT kvs) => kvs.length
    | _ => 0)
  | _ => 0
def sp_still (C CR : Addr) : Sp := fun xs H Q _ => ∃ p o ks, xs = [.ref p] ∧ TwAt C CR H p o ks ∧ ∀ r t a b H', Ke H H' → LK o r → H' t = some (.tup [lkV r, a, b]) → Q (.ref t) H'
def sp_least (K : PySem.W.Frag) : Sp := fun xs H Q _ => ∃ po o C1, xs = [.ref po] ∧ OC K C1 ∧ OfAt C1 H po o ∧ Wf o ∧ ¬ Over o ∧ (stepsOf o).length ≤ 250 ∧ ∀ r H', Ke H H' → LK o r → Q (lkV r) H'
theorem kd_old {H : Hp} {d : Addr} {L : List (List Int)} (h : KD H d L) : Old H d := by
  obtain ⟨kv, h, _⟩ := h
  exact .dT h
theorem kd_new {H H' : Hp} {d : Addr} {L : List (List Int)} (h : KD (Nw H H') d L) : ¬ Old H d ∧ KD H' d L := by
  obtain ⟨kv, h, e⟩ := h
  obtain ⟨n, h⟩ := Hd.at h
  exact ⟨n, kv, h, e⟩
section
variable {P : Program} {w : World} {K : PySem.W.Frag} {mg : Str → Option Value} {base : Heap} (T : Txt K mg)
section
include T
theorem ok_still_level : FnOk P w K mg base CX0 7 T.a_still_level T.d_still_level P_still_level (sp_still T.a_Twins T.a_Reader) := by
  refine T.F_still_level.ok sc_still_level (fun vs H Q E h => ?_) (fun cdv A outer s H vs Q E hr h => ?_)
  · obtain ⟨p, o, ks, rfl, _⟩ := h; rfl
  · obtain ⟨p, o, ks, rfl, tw, k⟩ := h
    have hu := hu_of hr
    have ki := tw.ki
    have cl := tw.cl
    refine ⟨_, (pss_cons (ps_set (i := 1) sc_still_level.nd rfl (Or.inl rfl) (pe_call (ok_first_level T) (hr.mono (by decide)) rfl T.g_first_level T.k_first_level T.b_first_level .nil pass0 (pa_cons (pv 0) pa_nil)))
  (pss_cons (ps_set (i := 2) sc_still_level.nd rfl (Or.inl rfl) (pe_call (ok_bad_pairs T) (hr.mono (by decide)) rfl T.g_bad_pairs T.k_bad_pairs T.b_bad_pairs .nil pass0 (pa_cons (pv 0) (pa_cons (pv 1) pa_nil))))
  (pss_cons (ps_set (i := 3) sc_still_level.nd rfl (Or.inl rfl) pe_int)
  (pss_cons (ps_while PassesOwn.never (pt_cmpR op_gt (pe_callB call_len (by rfl) T.n_len (by decide +kernel) (pa_cons (pe_call (ok_bad_of T) (hr.mono (by decide)) rfl T.g_bad_of T.k_bad_of T.b_bad_of .nil pass0 (pa_cons (pv 1) (pa_cons (pv 2) pa_nil))) pa_nil)) pe_int (nomark _)) (pss_cons (ps_set (i := 4) sc_still_level.nd rfl (Or.inl rfl) (pe_call (ok_next_level T) (hr.mono (by decide)) rfl T.g_next_level T.k_next_level T.b_next_level .nil pass0 (pa_cons (pv 0) (pa_cons (pv 1) pa_nil))))
  (pss_cons (ps_if (pt_val (pe_call (ok_are_alike T) (hr.mono (by decide)) rfl T.g_are_alike T.k_are_alike T.b_are_alike .nil pass0 (pa_cons (pv 1) (pa_cons (pv 4) pa_nil)))) (pss_one (ps_ret (pe_tup (pa_cons pe_non (pa_cons (pv 4) (pa_cons (pv 2) pa_nil)))))) pss_nil)
  (pss_cons (ps_set (i := 1) sc_still_level.nd rfl (Or.inl rfl) (pv 4))
  (pss_one (ps_aug (i := 3) sc_still_level.nd rfl (Or.inl rfl) pe_int ip_add))))))
  (pss_one (ps_ret (pe_tup (pa_cons (pv 3) (pa_cons (pv 1) (pa_cons (pv 2) pa_nil)))))))))), ?_⟩
    refine ⟨_, rfl, p, o, ks, rfl, tw, fun ld H1 L1 k1 kd1 lev1 => stepN ?_⟩
    obtain ⟨_, kd1⟩ := kd_new kd1
    refine ⟨_, rfl, _, rfl, p, o, ks, ld, 0, L1, rfl, tw.ke k1, kd1, lev1, fun bd H2 B k2 kd2 mB => stepN ?_⟩
    obtain ⟨nb, kd2⟩ := kd_new kd2
    have nlb : ld ≠ bd := fun z => nb (by rw [← z]; exact kd_old kd1)
    dsimp only
    refine stepA ?_
    refine while_by (fun σ H' => ∃ (n : Nat) (l : Addr) (L : List (List Int)), (∃ s4, σ = [some (.ref p), some (.ref l), some (.ref bd), some (.int ((n + 1 : Nat) : Int)), s4]) ∧ Ke H H' ∧ KD H' l L ∧ KD H' bd B ∧ IsLev o ks n L ∧ (∀ x ∈ L, x ∈ L1) ∧ l ≠ bd ∧ ∀ m, m < n → ∃ p, Lv o m p ∧ Bd o p) (keysN 1)
      ⟨0, ld, L1, ⟨_, rfl⟩, k1.trans k2, kd1.ke k2, kd2, lev1, fun x hx => hx, nlb, fun m hm => by omega⟩ ?_ ?_
    · rintro σ H3 ⟨n, l, L, ⟨s4, rfl⟩, k3, kdl, kdb, lev, sub, nl, prev⟩
      have pL : ∀ x ∈ L, Pn o ks n x := fun x hx => (lev.2 x).mp hx
      have lL := len_pn ki cl lev.1 pL
      have inB : ∀ x ∈ L, (x ∈ B ↔ BadN o ks x) := fun x hx => by rw [mB]; exact ⟨fun h => h.2, fun h => ⟨sub x hx, h⟩⟩
      refine ⟨_, rfl, _, rfl, l, bd, L, B, rfl, nl, kdl, kdb, fun x hx => (pL x hx).len, by omega, fun v' H4 k4 hv => ?_⟩
      obtain ⟨a, ws, rfl, ha, pw⟩ := hv
      have lw := plen pw
      rw [len_sortT] at lw
      have k04 := k3.trans k4
      refine ⟨.ref a, ws.length, rfl, .inl ⟨_, SqL.of ha, rfl⟩, _, _, rfl, rfl, _, rfl, ite2 (fun c => ?_) (fun c => ?_)⟩
      · have c' : ((ws.length : Nat) : Int) > 0 := of_decide_eq_true c
        obtain ⟨x, hx⟩ := List.exists_mem_of_ne_nil _ (List.length_pos_iff.mp (show 0 < (L.filter fun x => decide (x ∈ B)).length by omega))
        obtain ⟨hxL, hxB⟩ := List.mem_filter.mp hx
        have bad := (inB x hxL).mp (of_decide_eq_true hxB)
        obtain ⟨q, lvq, bdq⟩ := bad_pair ki cl (pL x hxL) bad
        refine ⟨_, rfl, _, rfl, p, o, ks, l, n, L, rfl, tw.ke k04, kdl.ke k4, lev, fun d' H5 M k5 kdM levM => stepN ?_⟩
        obtain ⟨nn, kdM⟩ := kd_new kdM
        have k05 := k04.trans k5
        have lM := len_pn ki cl levM.1 fun x hx => (levM.2 x).mp hx
        dsimp only
        refine ⟨_, rfl, _, rfl, l, d', L, M, rfl, (kdl.ke k4).ke k5, kdM, _, rfl, ?_⟩
        by_cases e : L.length = M.length
        · refine iteT' (decide_eq_true e) ⟨_, rfl, _, rfl, (by show 3 ≤ sizeLine; decide), fun t ht => ?_⟩
          exact k none t _ _ _ (k05.trans (Ke.new ht)) (LK.none_of (lev_still ki cl lev levM e) lvq bdq) upd_same
        · have lt : M.length < L.length := by
            have := len_sub levM.1 (lev_sub lev levM)
            omega
          refine iteF' (by simp [e]) (stepT ⟨_, rfl, stepN ?_⟩)
          dsimp only
          refine ⟨_, rfl, _, _, rfl, rfl, ⟨n + 1, d', M, ⟨_, rfl⟩, k05, kdM, (kdb.ke k4).ke k5, levM, fun x hx => sub x (lev_sub lev levM x hx), fun z => nn (by rw [z]; exact kd_old (kdb.ke k4)), fun m hm => ?_⟩, ?_⟩
          · by_cases em : m = n
            · rw [em]; exact ⟨q, lvq, bdq⟩
            · exact prev m (by omega)
          · obtain ⟨kvM, hM, eM⟩ := kdM
            obtain ⟨kvL, hL, eL⟩ := kdl
            show (match H5 d' with | some (.dT kvs) => kvs.length | _ => 0) < (match H3 l with | some (.dT kvs) => kvs.length | _ => 0)
            rw [hM, hL]
            show kvM.length < kvL.length
            rw [kd_len eM, kd_len eL]
            exact lt
      · have e0 : L.filter (fun x => decide (x ∈ B)) = [] := List.length_eq_zero_iff.mp (by
          have : ¬ ((ws.length : Nat) : Int) > 0 := fun z => c (decide_eq_true z)
          omega)
        have en : EnK o n := none_bad ki cl lev fun x hx hb => by
          have : x ∈ L.filter (fun x => decide (x ∈ B)) := List.mem_filter.mpr ⟨hx, decide_eq_true ((inB x hx).mpr hb)⟩
          rw [e0] at this
          cases this
        refine ⟨_, rfl, _, rfl, _, rfl, (by show 3 ≤ sizeLine; decide), fun t ht => ?_⟩
        exact k (some n) t _ _ _ (k04.trans (Ke.new ht)) (LK.some_of en prev) upd_same
    · intro σ H' Q Q' hq h
      obtain ⟨v, e1, v2, e2, d, e, L, B, e3, nde, g1, g2, ne, lL, f⟩ := h
      refine ⟨v, e1, v2, e2, d, e, L, B, e3, nde, g1, g2, ne, lL, fun v' H2 k hl => ?_⟩
      obtain ⟨x, n, e4, lv, i, j, e5, e6, b, e7, q⟩ := f v' H2 k hl
      exact ⟨x, n, e4, lv, i, j, e5, e6, b, e7, hq _ _ q⟩
end
variable (Er : Err P K mg) (htop : (P.main.scope.names.lookup ("super" : Str)).isSome = false)
include T Er htop
theorem ok_least_k_ : FnOk P w K mg base CX0 9 T.a_least_k T.d_least_k P_least_k (sp_least K) := by
  have ok_Twins_init : ∀ _ : Txt K mg, FnOk P w K mg base CX0 7 T.a_Twins_init T.d_Twins_init P_Twins_init (sp_twins K T.a_Twins T.a_Reader) := fun _ => Fd.ok_Twins_init T Er htop
  refine T.F_least_k.ok sc_least_k (fun vs H Q E h => ?_) (fun cdv A outer s H vs Q E hr h => ?_)
  · obtain ⟨po, o, C1, rfl, _⟩ := h; rfl
  · obtain ⟨po, o, C1, rfl, oc, of, wf, no, lo, k⟩ := h
    refine ⟨_, (pss_one (ps_ret (pe_ix ix_tup (pe_call (ok_still_level T) (hr.mono (by decide)) rfl T.g_still_level T.k_still_level T.b_still_level .nil pass0 (pa_cons (pe_make T.m_Twins (ok_Twins_init T) (hr.mono (by decide)) rfl T.g_Twins T.b_Twins_init .nil pass0 (pa_cons (pv 0) pa_nil)) pa_nil)) pe_int (fun _ _ => rfl)))), ?_⟩
    refine ⟨_, rfl, nilA fun x dx hx hdx ndx => ?_⟩
    have kA : Ke H (upd (upd H dx (.own x)) x (.ins T.a_Twins dx [])) := (Ke.new hdx).trans (Ke.new (by rw [upd_ne ndx.symm]; exact hx))
    have hxA : (upd (upd H dx (.own x)) x (.ins T.a_Twins dx [])) x = some (.ins T.a_Twins dx []) := upd_same
    generalize upd (upd H dx (.own x)) x (.ins T.a_Twins dx []) = HA at kA hxA ⊢
    refine ⟨x, dx, po, o, C1, rfl, hxA, oc, of.ke kA, wf, no, lo, fun ks H2 k2 tw => ⟨rfl, ?_⟩⟩
    have k02 : Ke H H2 := Ks.comp kA.ks k2 (fun _ z => z) (fun y z => .inr (by rw [z]; exact hx))
    refine nilA ⟨x, o, ks, rfl, tw, fun r t a b H3 k3 lk ht => ?_⟩
    exact ⟨t, _, 0, _, rfl, rfl, SqT.of ht, rfl, k r H3 (k02.trans k3) lk⟩
end
end Fd
set_option Elab.async false
set_option linter.all false
set_option maxRecDepth 100000
set_option maxHeartbeats 4000000
namespace Fd
open PySem PySem.Spec PyProof.Rows L2
/-! ### strike and shuts_not, where they do something -/
def sp_strikeG (K : PySem.W.Frag) (CS CB : Addr) : Sp := fun xs H Q E => ∃ hd ca p l o os, ∃ n i : Nat, ∃ row, xs = [.ref p, .int n, .int i] ∧ SH K CS hd ca p l H o os ∧ os.length < 1000 ∧ Shp o ∧ o.mv[n]? = some row ∧ i < row.length ∧
  Chg K CS CB hd ca p l H o os (o.mv.set n (row.take i ++ row.drop (i + 1))) o.cl Q E
def sp_shutsNG (K : PySem.W.Frag) (CS CB : Addr) : Sp := fun xs H Q E => ∃ hd ca p l o os, ∃ n : Nat, ∃ k a b c row, xs = [.ref p, .int n, .int k] ∧ SH K CS hd ca p l H o os ∧ os.length < 1000 ∧ Shp o ∧ o.sz = [a, b, c] ∧ o.cl[n]? = some row ∧ k ∈ row ∧ (0 ≤ k ∧ k ≤ c - 1) ∧
  Chg K CS CB hd ca p l H o os o.mv (o.cl.set n (row.filter fun x => decide (x ≠ k))) Q E
def sp_sleast (K : PySem.W.Frag) (CS : Addr) : Sp := fun xs H Q _ => ∃ hd ca p l o os, xs = [.ref p] ∧ SH K CS hd ca p l H o os ∧ Wf o ∧ ¬ Over o ∧ (stepsOf o).length ≤ 250 ∧ ∀ r H', Ke H H' → LK o r → Q (lkV r) H'
section
variable {P : Program} {w : World} {K : PySem.W.Frag} {mg : Str → Option Value} {base : Heap} (T : Txt K mg) (Er : Err P K mg) (htop : (P.main.scope.names.lookup ("super" : Str)).isSome = false)
include T Er htop
theorem ok_Shop_strike : FnOk P w K mg base (L2.CX P w) 8 T.a_Shop_strike T.d_Shop_strike P_Shop_strike (sp_strikeG K T.a_Shop Er.a_BadOffice) := by
  refine T.F_Shop_strike.okX sc_Shop_strike (fun vs H Q E h => ?_) (fun cdv A outer s H vs Q E hr h => ?_)
  · obtain ⟨hd, ca, p, l, o, os, n, i, row, rfl, _⟩ := h; rfl
  · obtain ⟨hd, ca, p, l, o, os, n, i, row, rfl, sh, los, shp, hrow, hi, ch⟩ := h
    have tk : Takes (cxOf (L2.CX P w) P w K mg base N_Shop_strike "Shop.strike" (defScope s_Shop_strike) T.a_Shop_strike cdv A outer s H E) (fun cls d _ H' => E cls d H') := takes_of rfl rfl rfl rfl
    obtain ⟨dx, q, past, C, dxo, vs, vm, vc, vk, hp, hl, lp, oc, of, hq, hz, ⟨mm, ms, rfl, hmm, pm⟩, hc, tx⟩ := sh.at
    have hnlt : n < o.mv.length := (List.getElem?_eq_some_iff.mp hrow).1
    refine ⟨_, (pss_cons (ps_expr (pe_meth (pv 0) T.c_Shop T.t_Shop_check_standing (ok_Shop_check_standing T Er htop) (hr.mono (by decide)) T.b_Shop_check_standing .nil (passes_call tk fun _ _ _ _ h => h) (pa_cons (pv 1) pa_nil)))
  (pss_cons (ps_set (i := 3) sc_Shop_strike.nd rfl (Or.inl rfl) (pe_fld (pe_fld (pv 0) rfl) rfl))
  (pss_cons (ps_set (i := 4) sc_Shop_strike.nd rfl (Or.inl rfl) (pe_ix ix_tup (pv 3) (pv 1) (fun _ _ => rfl)))
  (pss_cons (ps_if (pt_not (pt_val (pe_call (ok_is_within T) (hr.mono (by decide)) rfl T.g_is_within T.k_is_within T.b_is_within .nil pass0 (pa_cons (pv 2) (pa_cons pe_int (pa_cons (pe_op op_sub (pe_callB call_len (by rfl) T.n_len (by decide +kernel) (pa_cons (pv 4) pa_nil)) pe_int) pa_nil)))))) (pss_one (ps_raise rfl tk (pmk_own0 F.excBase_ValueError Er.x_NoMove Er.g_NoMove Er.k_NoMove (raises_own Er.s_NoMove Er.t_NoMove) rfl))) pss_nil)
  (pss_one (ps_expr (pe_meth (pv 0) T.c_Shop T.t_Shop_change (ok_Shop_change T Er htop) (hr.mono (by decide)) T.b_Shop_change .nil (passes_call tk fun _ _ _ _ h => h) (pa_cons (pe_call (ok_exchanged T) (hr.mono (by decide)) rfl T.g_exchanged T.k_exchanged T.b_exchanged .nil pass0 (pa_cons (pv 3) (pa_cons (pv 1) (pa_cons (pe_op op_catA (pe_slice sl_tupA (pv 4) po_none (po_some (pv 2))) (pe_slice sl_tupA (pv 4) (po_some (pe_op op_add (pv 2) pe_int)) po_none)) pa_nil)))) (pa_cons (pe_fld (pe_fld (pv 0) rfl) rfl) pa_nil))))))))), ?_⟩
    refine ⟨_, rfl, p, dx, _, rfl, hp, rfl, _, rfl, hd, ca, p, l, o, os, .int n, true, rfl, sh, .inl ⟨n, rfl, (decide_eq_true (by omega)).symm⟩, (fun e => by cases e), fun _ => ?_⟩
    obtain ⟨rv, hrv, ra, rws, rfl, hra, prw⟩ := pget pm hrow
    have irv : atI ms (n : Int) = some (.ref ra) := atI_nat hrv rfl
    have lrw := plen prw
    obtain ⟨lro, nro⟩ := shp.rw_ row (List.mem_of_getElem? hrow)
    refine ⟨_, rfl, p, T.a_Shop, dx, _, _, rfl, hp, T.c_Shop, T.f_Shop_kept_now, shF_n, q, C, dxo, _, _, rfl, hq, oc.c, oc.n2, offF_m _ _ _ _, stepN ?_⟩
    refine ⟨_, rfl, _, rfl, mm, ms, n, _, rfl, rfl, SqT.of hmm, irv, stepN ?_⟩
    refine ⟨_, rfl, _, rfl, .ref ra, _, rfl, .inr ⟨_, SqT.of hra, rfl⟩, _, _, rfl, rfl, .int i, 0, _, true, rfl, .inl ⟨i, rfl, (decide_eq_true (by rw [lrw]; omega)).symm⟩, true, rfl, iteF (stepT ?_)⟩
    refine ⟨_, rfl, p, dx, _, rfl, hp, rfl, _, rfl, _, rfl, _, rfl, _, rfl, _, rfl, sl_row TI.stb (⟨ra, rws, rfl, hra, prw⟩ : TT TI _ _ row) fun v1 H1 k1 h1 => ?_⟩
    rw [cut_to] at h1
    refine ⟨_, rfl, _, rfl, _, _, rfl, rfl, _, rfl, ?_⟩
    have ej : (i : Int) + 1 = ((i + 1 : Nat) : Int) := by omega
    rw [ej]
    unfold tNoPart
    refine sl_row TI.stb (TT.stb TI.stb _ _ _ _ k1.tx (⟨ra, rws, rfl, hra, prw⟩ : TT TI H (.ref ra) row)) fun v3 H3 k3 h3 => ?_
    rw [cut_from] at h3
    refine cat_row TI.stb (TT.stb TI.stb _ _ _ _ k3.tx h1) h3 (by rw [List.length_take, List.length_drop]; omega) fun v4 H4 k4 h4 => ?_
    have k04 := (k1.trans k3).trans k4
    refine nilA ⟨List (List Int), TT TI, .ref mm, v4, n, o.mv, row.take i ++ row.drop (i + 1), rfl, TT.stb TI.stb, ⟨mm, ms, rfl, k04.at hmm, pimp (fun v x r => TT.stb TI.stb _ _ v x k04.tx r) pm⟩, h4, by omega, by have := shp.n2; omega, fun v2 H5 k5 hv2 => ?_⟩
    have k05 := k04.trans k5
    refine ⟨_, rfl, p, T.a_Shop, dx, _, _, rfl, k05.at hp, T.c_Shop, T.f_Shop_kept_now, shF_n, q, C, dxo, _, _, rfl, k05.at hq, oc.c, oc.n3, offF_c _ _ _ _, ?_⟩
    refine nilA ⟨hd, ca, p, l, o, os, v2, vc, o.mv.set n (row.take i ++ row.drop (i + 1)), o.cl, rfl, sh.ke k05, los, hv2, TT.stb TI.stb _ _ _ _ k05.tx hc, shp.s3, by rw [List.length_set]; have := shp.n2; omega, fun zz => ?_, ch.ke k05⟩
    obtain ⟨⟨m1, m2⟩, cc⟩ := shp.sh zz
    refine ⟨⟨by rw [List.length_set]; exact m1, fun r hr => ?_⟩, by rw [List.length_set]; exact cc⟩
    rw [List.length_set]
    rcases List.mem_or_eq_of_mem_set hr with yy | yy
    · exact m2 r yy
    · rw [yy]
      refine ⟨fun m hm => ?_, by rw [List.length_append, List.length_take, List.length_drop]; omega⟩
      rcases List.mem_append.mp hm with w | w
      · exact (m2 row (List.mem_of_getElem? hrow)).1 m (List.mem_of_mem_take w)
      · exact (m2 row (List.mem_of_getElem? hrow)).1 m (List.mem_of_mem_drop w)
theorem ok_Shop_shuts_not : FnOk P w K mg base (L2.CX P w) 8 T.a_Shop_shuts_not T.d_Shop_shuts_not P_Shop_shuts_not (sp_shutsNG K T.a_Shop Er.a_BadOffice) := by
  refine T.F_Shop_shuts_not.okX sc_Shop_shuts_not (fun vs H Q E h => ?_) (fun cdv A outer s H vs Q E hr h => ?_)
  · obtain ⟨hd, ca, p, l, o, os, n, k, a, b, c, row, rfl, _⟩ := h; rfl
  · obtain ⟨hd, ca, p, l, o, os, n, kk, a, b, c, row, rfl, sh, los, shp, ez, hrow, hkr, hkb, ch⟩ := h
    have tk : Takes (cxOf (L2.CX P w) P w K mg base N_Shop_shuts_not "Shop.shuts_not" (defScope s_Shop_shuts_not) T.a_Shop_shuts_not cdv A outer s H E) (fun cls d _ H' => E cls d H') := takes_of rfl rfl rfl rfl
    obtain ⟨dx, q, past, C, dxo, vs, vm, vc, vk, hp, hl, lp, oc, of, hq, hz, hm, ⟨cm, cs, rfl, hcm, pc⟩, tx⟩ := sh.at
    have hnlt : n < o.cl.length := (List.getElem?_eq_some_iff.mp hrow).1
    have hcl := shp.cl
    obtain ⟨cv, hcv, cra, rfl, hcra⟩ := pget pc hrow
    have lro := shp.rc row (List.mem_of_getElem? hrow)
    refine ⟨_, (pss_cons (ps_expr (pe_meth (pv 0) T.c_Shop T.t_Shop_check_standing (ok_Shop_check_standing T Er htop) (hr.mono (by decide)) T.b_Shop_check_standing .nil (passes_call tk fun _ _ _ _ h => h) (pa_cons (pv 1) pa_nil)))
  (pss_cons (ps_expr (pe_meth (pv 0) T.c_Shop T.t_Shop_check_mark (ok_Shop_check_mark T Er htop) (hr.mono (by decide)) T.b_Shop_check_mark .nil (passes_call tk fun _ _ _ _ h => h) (pa_cons (pv 2) pa_nil)))
  (pss_cons (ps_set (i := 3) sc_Shop_shuts_not.nd rfl (Or.inl rfl) (pe_fld (pe_fld (pv 0) rfl) rfl))
  (pss_cons (ps_set (i := 4) sc_Shop_shuts_not.nd rfl (Or.inl rfl) (pe_ix ix_tup (pv 3) (pv 1) (fun _ _ => rfl)))
  (pss_cons (ps_if (pt_cmpR op_notIn_seq (pv 2) (pv 4) rfl) (pss_one (ps_raise rfl tk (pmk_own0 F.excBase_ValueError Er.x_NoMark Er.g_NoMark Er.k_NoMark (raises_own Er.s_NoMark Er.t_NoMark) rfl))) pss_nil)
  (pss_cons (ps_set (i := 5) sc_Shop_shuts_not.nd rfl (Or.inl rfl) (pe_callTy call_tuple_of (by rfl) T.n_tuple (by decide +kernel) (pa_cons (pe_lc (own := [("other", 6)]) rfl sc_Shop_shuts_not.nd (pi_tup (pv 4)) (blkOk_by (own := [("other", 6)]) (N := N_Shop_shuts_not) (sc := defScope s_Shop_shuts_not) (by decide +kernel)) (fun _ _ _ _ _ => (pg_name (i := 6) sc_Shop_shuts_not.nd rfl (Or.inl rfl))) (fun _ _ _ _ _ => pts_one (pt_cmpR op_ne (pv 6) (pv 2) (nomark _))) (fun _ _ _ _ _ => (pv 6))) pa_nil)))
  (pss_one (ps_expr (pe_meth (pv 0) T.c_Shop T.t_Shop_change (ok_Shop_change T Er htop) (hr.mono (by decide)) T.b_Shop_change .nil (passes_call tk fun _ _ _ _ h => h) (pa_cons (pe_fld (pe_fld (pv 0) rfl) rfl) (pa_cons (pe_call (ok_exchanged T) (hr.mono (by decide)) rfl T.g_exchanged T.k_exchanged T.b_exchanged .nil pass0 (pa_cons (pv 3) (pa_cons (pv 1) (pa_cons (pv 5) pa_nil)))) pa_nil))))))))))), ?_⟩
    refine ⟨_, rfl, p, dx, _, rfl, hp, rfl, _, rfl, hd, ca, p, l, o, os, .int n, true, rfl, sh, .inl ⟨n, rfl, (decide_eq_true (by omega)).symm⟩, (fun e => by cases e), fun _ => ?_⟩
    refine ⟨_, rfl, p, dx, _, rfl, hp, rfl, _, rfl, hd, ca, p, l, o, os, .int kk, a, b, c, true, rfl, sh, ez, .inl ⟨kk, rfl, (decide_eq_true hkb).symm⟩, (fun e => by cases e), fun _ => ?_⟩
    refine ⟨_, rfl, p, T.a_Shop, dx, _, _, rfl, hp, T.c_Shop, T.f_Shop_kept_now, shF_n, q, C, dxo, _, _, rfl, hq, oc.c, oc.n3, offF_c _ _ _ _, stepN ?_⟩
    refine ⟨_, rfl, _, rfl, cm, cs, n, _, rfl, rfl, SqT.of hcm, atI_nat hcv rfl, stepN ?_⟩
    refine ⟨_, rfl, _, rfl, cra, _, rfl, .inr (SqT.of hcra), rfl, flat_int _, _, rfl, ?_⟩
    rw [inV_int]
    refine iteF' (by simp [hkr]) (stepT ?_)
    refine ⟨_, rfl, cra, rfl, ⟨_, SqT.of hcra⟩, fun D hD => lc_W (R := II) walk_tup (II.stb.sto) row (fun x => decide (x ≠ kk)) id hD (by rw [sizeLine_eq]; omega) (by simp) (fun H4 k4 => SqT.of (k4.at hcra)) (fun a H4 v H5 k4 y => ?_) ?_ ?_⟩
    · obtain ⟨rfl, e⟩ := y
      rw [List.getElem?_map] at e
      cases e3 : row[a]? with
      | none => rw [e3] at e; cases e
      | some m =>
        rw [e3] at e
        exact ⟨rfl, m, rfl, (Option.some.inj e).symm⟩
    · rintro v m H4 hm' rfl k4 nD Z Z' z z'
      refine ⟨rfl, _, rfl, _, rfl, rfl, _, rfl, ?_⟩
      by_cases e : m = kk
      · exact ifNT (by rw [e]) (z' (by simp [e]) _ .refl)
      · exact ifNF (fun q => e (by injection q)) ⟨_, rfl, z (by simp [e]) _ _ .refl rfl⟩
    · intro H4 k4 hl'
      rw [List.map_id] at hl'
      obtain ⟨D', ws, eD, hDn, pw⟩ := hl'
      cases eD
      obtain ⟨_, hDn⟩ := Hd.at hDn
      have ews := paired_int (H := Nw H H4) pw
      subst ews
      refine ⟨D, _, rfl, .inl ⟨SqL.of hDn, fun t ht => stepN ?_⟩⟩
      have kt : Ke H4 (upd H4 t (.tup ((row.filter fun x => decide (x ≠ kk)).map V.int))) := Ke.new ht
      have htt : (upd H4 t (.tup ((row.filter fun x => decide (x ≠ kk)).map V.int))) t = some (.tup ((row.filter fun x => decide (x ≠ kk)).map V.int)) := upd_same
      generalize upd H4 t (.tup ((row.filter fun x => decide (x ≠ kk)).map V.int)) = H5 at kt htt ⊢
      have k05 := k4.trans kt
      dsimp only
      refine ⟨_, rfl, p, dx, _, rfl, k05.at hp, rfl, _, rfl, p, T.a_Shop, dx, _, _, rfl, k05.at hp, T.c_Shop, T.f_Shop_kept_now, shF_n, q, C, dxo, _, _, rfl, k05.at hq, oc.c, oc.n2, offF_m _ _ _ _, ?_⟩
      refine ⟨_, rfl, _, rfl, _, rfl, List Int, TI, .ref cm, .ref t, n, o.cl, row.filter (fun x => decide (x ≠ kk)), rfl, TI.stb, ⟨cm, cs, rfl, k05.at hcm, pimp (fun v x r => TI.stb _ _ v x k05.tx r) pc⟩, ⟨t, rfl, htt⟩, by omega, by have := shp.n2; omega, fun v2 H6 k6 hv2 => ?_⟩
      have k06 := k05.trans k6
      refine nilA ⟨hd, ca, p, l, o, os, vm, v2, o.mv, o.cl.set n (row.filter fun x => decide (x ≠ kk)), rfl, sh.ke k06, los, TT.stb (TT.stb TI.stb) _ _ _ _ k06.tx hm, hv2, shp.s3, by have := shp.n2; omega, fun zz => ?_, ch.ke k06⟩
      obtain ⟨m, ⟨c1, c2⟩⟩ := shp.sh zz
      refine ⟨m, ⟨by rw [List.length_set]; exact c1, fun r hr => ?_⟩⟩
      rcases List.mem_or_eq_of_mem_set hr with y | y
      · exact c2 r y
      · rw [y]
        exact ⟨fun x hx => (c2 row (List.mem_of_getElem? hrow)).1 x (List.mem_filter.mp hx).1, by have := List.length_filter_le (fun x => decide (x ≠ kk)) row; omega⟩
theorem ok_Shop_least : FnOk P w K mg base CX0 10 T.a_Shop_least T.d_Shop_least P_Shop_least (sp_sleast K T.a_Shop) := by
  have ok_least_k : ∀ _ : Txt K mg, FnOk P w K mg base CX0 9 T.a_least_k T.d_least_k P_least_k (sp_least K) := fun _ => ok_least_k_ T Er htop
  refine T.F_Shop_least.ok sc_Shop_least (fun vs H Q E h => ?_) (fun cdv A outer s H vs Q E hr h => ?_)
  · obtain ⟨hd, ca, p, l, o, os, rfl, _⟩ := h; rfl
  · obtain ⟨hd, ca, p, l, o, os, rfl, sh, wf, no, lo, k⟩ := h
    obtain ⟨dx, q, past, C, dxo, vs, vm, vc, vk, hp, hl, lp, oc, of, hq, hz, hm, hc, tx⟩ := sh.at
    refine ⟨_, (pss_one (ps_ret (pe_call (ok_least_k T) (hr.mono (by decide)) rfl T.g_least_k T.k_least_k T.b_least_k .nil pass0 (pa_cons (pe_fld (pv 0) rfl) pa_nil)))), ?_⟩
    exact ⟨_, rfl, p, T.a_Shop, dx, _, _, rfl, hp, T.c_Shop, T.f_Shop_kept_now, shF_n, nilA ⟨q, o, C, rfl, oc, of.ke (Le.ke Hd.le), wf, no, lo, k⟩⟩
end
end Fd
set_option Elab.async false
set_option linter.all false
set_option maxRecDepth 100000
set_option maxHeartbeats 4000000
/-! A law's own def, run where it is called (no guard stands around it); repr of data there. -/
namespace Fd
open PySem PySem.Spec PyProof.Rows L2 PySem.W
/-- a promise kept at one place A -/
def KeepsAt (P : Program) (w : World) (K : Frag) (mg : Str → Option Value) (base : Heap) (A : Around) (f : Addr) (fd : FuncData) (ps : List Str) (sp : Sp) : Prop :=
  ∀ (outer : List Env) (s : Shared) (H : Hp) (args : Args) (us : List Value) (vs : List V) (Q : VK) (E : XK), Env0 P w K mg base A outer s H → BindsTo s fd args (ps.zip us) → Vals vs us → sp vs H Q E → codeAny (model P w) A (.call (.ref f) args) (CR CX0 outer P w H s Q E) s
section
variable {P : Program} {w : World} {K : Frag} {mg : Str → Option Value} {base : Heap}
theorem keeps_of {x qual : Str} {st : Stmt} {f : Addr} {fd : FuncData} {N ps : List Str} {k : Nat} {sp : Sp} {A : Around} (F : Fun K x qual st f fd) (S : FnScope N ps (defScope st)) (len : ∀ vs H Q E, sp vs H Q E → vs.length = ps.length) (hr : Room (k + 1) A)
    (body : ∀ (cdv : Value) (outer : List Env) (s : Shared) (H : Hp) (vs : List V) (Q : VK) (E : XK), Room k (A.deeper (envOfC qual (defScope st) s.heap.objs.size f cdv)) → sp vs H Q E →
      ∃ t, PSs (cxOf CX0 P w K mg base N qual (defScope st) f cdv A outer s H E).nox (defBody st) t ∧ t { nx := fun _ H' => Q .non H', rt := Q } (start N vs) H) : KeepsAt P w K mg base A f fd ps sp := by
  obtain ⟨oc, od, kd, dc, pm, an, cdv, ct, osl, rfl, lk, hcd⟩ := F.ex
  intro outer s H args us vs Q E env bnd rv ask
  have kin : K.In s.heap := env.mod.kin.keeps fun b o e => (env.bs b o e).1
  have loc : ∀ y ∈ ps.zip us, (defScope st).names.lookup y.1 = some .local ∨ ((defScope st).names.lookup y.1 = some .cell ∧ ((cellsFrom (s.heap.objs.size + 1) (defScope st).names []).lookup y.1).isSome = true) := by
    rintro ⟨n, v⟩ hy
    exact (S.par n (List.of_mem_zip hy).1).imp id fun q => ⟨q, cellsFrom_some _ _ _ (.inl q)⟩
  refine codeAny_call_function hr.depth (kin _ _ lk) rfl S.co S.gen rfl (codeRec_of kin hcd) (bnd _ _ _ _ (wpAny_newFunctionEnv_cells S.kind loc ?_))
  rintro env' rfl s1 x1
  refine ⟨(env.mod.nolimit.keeps fun b o e => (env.bs b o e).1).keeps x1.toInCall.keep, codeAny_func ?_⟩
  obtain ⟨t, ht, hq⟩ := body cdv outer s H vs Q E (hr.deeper _) ask
  refine wpAny_mono (ht.nox.run [] s1 _ H _ (inv_start S hr.hd env (len _ _ _ _ ask) rv x1) hq) ?_ (fun e s' h => h)
  intro fl s' res
  cases fl with
  | ret u => exact let ⟨v, _, H', J, rv, q⟩ := res; ⟨v, H', J.os, J.bare, J.base, J.hok, rv, q⟩
  | next => exact let ⟨_, H', J, q⟩ := res; ⟨V.non, H', J.os, J.bare, J.base, J.hok, rfl, q⟩
  | brk => exact (let ⟨_, _, _, q⟩ := res; q : False).elim
  | cont => exact (let ⟨_, _, _, q⟩ := res; q : False).elim
/-- the heap in which the script alone is known, and that only where the text hasn't it already -/
def scr (a : Addr) (o : Obj) (xs : List V) (t : Bool) : Hp := fun b => if b = a ∧ t = true then some (.frz o (.lst xs)) else none
theorem scr_some {a b : Addr} {o : Obj} {xs : List V} {t : Bool} {u : HO} (h : scr a o xs t b = some u) : b = a ∧ t = true ∧ u = .frz o (.lst xs) := by
  unfold scr at h
  by_cases c : b = a ∧ t = true
  · rw [if_pos c] at h; exact ⟨c.1, c.2, (Option.some.inj h).symm⟩
  · rw [if_neg c] at h; cases h
theorem run_law {mb : Str → Option Value} {fa a : Addr} {fd : FuncData} {x : Str} {sp : Sp} {s₁ : Shared} {vs : List Value} {ns : List Int} (KX : K.In s₁.heap) (hns : s₁.heap.Ns mainGlobals mg) (hb : s₁.heap.Ns builtinsNs mb) (hbb : ∀ x : Str, x ≠ "__name__" → mb x = bootBuiltins x) (hlim : s₁.heap.NoLimit)
    (hg : s₁.gens = #[]) (ha : s₁.heap.get? a = some { cls := .type "list", data := .seq vs.toArray }) (hi : IntsAre vs ns) (hl : ns.length ≤ sizeLine) (F : ∀ base : Heap, K.In base → base.Ns mainGlobals mg → KeepsAt P w K mg base callerA fa fd [x] sp)
    (hbind : ∀ (s : Shared) (u : Value), BindsTo s fd ⟨[u], []⟩ [(x, u)]) (hsp : ∀ H : Hp, Only H → SqL K H a (ns.map V.int) → sp [.ref a] H (fun v _ => v = .bl true) E0) :
    codeAny (model P w) callerA (.call (.ref fa) ⟨[.ref a], []⟩) (fun r s' => r = .ok (.ret (.bool true)) ∧ OldK s₁.heap s'.heap ∧ s'.os = s₁.os ∧ AllBare s'.gens) s₁ := by
  have rv := vals_ints hi
  obtain ⟨H, eH⟩ : ∃ H : Hp, H = scr a { cls := .type "list", data := .seq vs.toArray } (ns.map V.int) (K.lookup a).isNone := ⟨_, rfl⟩
  have inv : ∀ {b u}, H b = some u → b = a ∧ (K.lookup a).isNone = true ∧ u = .frz { cls := .type "list", data := .seq vs.toArray } (.lst (ns.map V.int)) := fun {b u} e => by
    rw [eH] at e; exact scr_some e
  have off : ∀ {b : Addr} {o : Obj}, s₁.heap.get? b = some o → (∀ its n, o.data ≠ .seq its n) → H b = none := fun {b o} e d => by
    cases q : H b with
    | none => rfl
    | some u =>
      obtain ⟨rfl, _⟩ := inv q
      rw [ha] at e
      exact absurd (congrArg Obj.data (Option.some.inj e)).symm (d _ _)
  have ns' : ∀ {b : Addr} {m : Str → Option Value}, s₁.heap.Ns b m → (hidT s₁.heap H).Ns b m := by
    rintro b m ⟨o, es, ep, e, d, r⟩
    refine ⟨o, es, ep, hidT_get e (off e fun its n z => ?_), d, r⟩
    have d1 : o.data = Data.dict es ep := d
    rw [d1] at z; cases z
  have kin : K.In (hidT s₁.heap H) := fun b o e => by
    refine hidT_get (KX b o e) ?_
    cases q : H b with
    | none => rfl
    | some u =>
      obtain ⟨rfl, h2, _⟩ := inv q
      have e' : K.lookup b = some o := e
      rw [e'] at h2; cases h2
  have only : Only H := fun b => by
    cases q : H b with
    | none => exact .inl rfl
    | some u => obtain ⟨_, _, e⟩ := inv q; exact .inr ⟨_, _, by rw [e]⟩
  have hok : HOk P w H s₁.heap := fun b u q => by
    obtain ⟨rfl, _, e⟩ := inv q
    rw [e]
    show s₁.heap.get? b = some { cls := .type "list", data := .seq vs.toArray } ∧ ObjOk P w H s₁.heap b (.lst (ns.map V.int))
    exact ⟨ha, by rw [List.length_map]; exact hl, vs, 0, rv, ha⟩
  have hS : SqL K H a (ns.map V.int) := by
    cases hk : K.lookup a with
    | some o =>
      have e := KX a o hk
      rw [ha] at e
      have e2 := Option.some.inj e
      exact .inr ⟨o, vs.toArray, _, hk, by rw [← e2], by rw [← e2], by rw [← e2], by rw [List.size_toArray, hi.length]; exact hl, by simpa using rv⟩
    | none =>
      refine .inl (.inr ⟨{ cls := .type "list", data := .seq vs.toArray }, ?_⟩)
      rw [eH, hk]
      exact if_pos ⟨rfl, rfl⟩
  obtain ⟨mc, lim1, lim2⟩ := hlim
  have e0 : Env0 P w K mg (hidT s₁.heap H) callerA [] s₁ H := by
    refine ⟨rfl, ⟨kin, ns' hns, ⟨mb, ns' hb, hbb⟩, ⟨mc, ns' lim1, lim2⟩⟩, fun b o e => of_hidT e, Nat.le_of_eq (hidT_size _ _), trivial, ?_, hok, .of_eq hg⟩
    intro b hb
    exact absurd (show b ∈ ([] : List Addr) from hb) (by simp)
  refine codeAny_mono (F _ kin (ns' hns) [] s₁ H ⟨[.ref a], []⟩ [.ref a] [.ref a] (fun v _ => v = .bl true) E0 e0 (hbind s₁ (.ref a)) (.cons rfl .nil) (hsp H only hS)) ?_
  intro r s' res
  cases r with
  | error e => exact (show False from res).elim
  | ok fl =>
    cases fl with
    | ret u =>
      obtain ⟨v, H', os, bare, un, hok', r', q⟩ := res
      have q' : v = .bl true := q
      subst q'
      have r2 : u = Value.bool true := r'
      subst r2
      refine ⟨rfl, OldK.of_keep fun b o e => ?_, os, bare⟩
      cases h : H b with
      | none => exact un.keep b o e h (fun z => absurd (show b ∈ ([] : List Addr) from z) (by simp)) (by simp)
      | some u =>
        obtain ⟨rfl, _, eu⟩ := inv h
        have z2 := un.frzs _ _ _ (by rw [h, eu])
        rw [ha] at e
        rw [← e]
        exact (hok' _ _ z2).1
    | next => exact (show False from res).elim
    | brk => exact (show False from res).elim
    | cont => exact (show False from res).elim
end
/-- a law's walk, from a promise kept at the caller's place -/
theorem walk_at {l : OpenLaw} {n : Nat} {q : Program} {loose : List Str} {XP : (Str → Option Value) → Heap → Prop} {YP : World → Heap → Prop} {d : DefRec} {x : Str} (hn : l.most = some n) (hn2 : n ≤ sizeLine) (hdf : d.params.defaults = [])
    (F : ∀ (w : World) (mg : Str → Option Value) (fa : Addr) (h : Heap), YP w h → h.Ns mainGlobals mg → mg d.name = some (.ref fa) → ∃ (K : Frag) (fd : FuncData) (sp : Sp), K.In h ∧ (∀ (s : Shared) (u : Value), BindsTo s fd ⟨[u], []⟩ [(x, u)]) ∧
      (∀ (H : Hp) (a : Addr) (ns : List Int), ns.length ≤ n → Only H → SqL K H a (ns.map V.int) → sp [.ref a] H (fun v _ => v = .bl true) E0) ∧ ∀ base : Heap, K.In base → base.Ns mainGlobals mg → KeepsAt l.prog w K mg base callerA fa fd [x] sp) :
    WalkO q loose XP YP l.row.toRowW d [] (fun f vs => PySem.call f vs) := by
  refine Att.attach_call hn hdf ?_
  intro w s₀ s₁ mg mb fa o pm cd doc a vs ns G Y ho hd hcd hmg hobj hints hlen hg
  obtain ⟨K, fd, sp, KX, hb, hsp, hF⟩ := F w mg fa _ Y G.T.g hmg
  exact run_law KX G.T.g G.T.b G.T.builtins G.T.nolimit hg hobj hints (Nat.le_trans hlen hn2) hF hb fun H hO hS => hsp H a ns hlen hO hS
/-! ### repr of data, where no guard stands -/
def rReprD (K : Frag) : List V → Hp → VK → Prop := fun xs H Q => ∃ (a : Addr) (d : PyData), xs = [.ref a] ∧ Dp K H (.ref a) d ∧ d.showable = true ∧ d.hasDict = false ∧ d.depth ≤ 60 ∧ d.shown.length ≤ sizeLine ∧ Q (.str d.shown) H
theorem cr_reprD {X : Cx} {k : Nat} (hr : Room k X.A) (hg : X.A.guards = some []) : CallR X (.builtin "repr") (rReprD X.K) := by
  intro pins s σ H xs us Q I r h
  obtain ⟨a, d, rfl, hd, hs, hn, dp, sz, q⟩ := h
  obtain ⟨u, rfl, rx⟩ := vals1 r
  obtain ⟨as, rd⟩ := Dp.reads I d (.ref a) u hd rx
  have e : u = Value.ref a := rx
  subst e
  refine repr_of_reads' rd hs (fun z => by rw [hn] at z; cases z) hg (by have := hr.un; omega) (fun _ _ e => e) (fun h' u tk hk => ?_) sz
  exact ⟨.str d.shown, H, I.kept hk, ⟨u, rfl⟩, q⟩
end Fd
set_option Elab.async false
set_option linter.all false
set_option maxRecDepth 100000
set_option maxHeartbeats 4000000
/-! Defs that are called where no guard stands (they ask for repr). -/
namespace Fd
open PySem PySem.Spec PyProof PyProof.Rows L2 PySem.W
structure FnG (P : Program) (w : World) (K : Frag) (mg : Str → Option Value) (base : Heap) (k : Nat) (f : Addr) (fd : FuncData) (ps : List Str) (sp : Sp) : Prop where
  len : ∀ vs H Q E, sp vs H Q E → vs.length = ps.length
  run : ∀ A, Room k A → A.guards = some [] → KeepsAt P w K mg base A f fd ps sp
theorem fng_of {P : Program} {w : World} {K : Frag} {mg : Str → Option Value} {base : Heap} {x qual : Str} {st : Stmt} {f : Addr} {fd : FuncData} {N ps : List Str} {k : Nat} {sp : Sp} (F : Fun K x qual st f fd) (S : FnScope N ps (defScope st)) (len : ∀ vs H Q E, sp vs H Q E → vs.length = ps.length)
    (body : ∀ (cdv : Value) (A : Around) (outer : List Env) (s : Shared) (H : Hp) (vs : List V) (Q : VK) (E : XK), (A.deeper (envOfC qual (defScope st) s.heap.objs.size f cdv)).guards = some [] → Room k (A.deeper (envOfC qual (defScope st) s.heap.objs.size f cdv)) → sp vs H Q E →
      ∃ t, PSs (cxOf CX0 P w K mg base N qual (defScope st) f cdv A outer s H E).nox (defBody st) t ∧ t { nx := fun _ H' => Q .non H', rt := Q } (start N vs) H) : FnG P w K mg base (k + 1) f fd ps sp :=
  ⟨len, fun A hr hg => keeps_of F S len hr fun cdv outer s H vs Q E hr' h => body cdv A outer s H vs Q E hg hr' h⟩
section
variable {X : Cx} {k : Nat} {f : Addr} {fd : FuncData} {ps : List Str} {sp : Sp} {x : Str} {p pos : Pos} {e : Expr} {es : List Expr} {t : TA}
theorem pe_callG (F : FnG X.prog X.w X.K X.mg X.base k f fd ps sp) (hr : Room k X.A) (hgd : X.A.guards = some []) (hg : Gl X x) (hm : X.mg x = some (.ref f)) (hk : PySem.W.keepIn X.K (.ref f) = true) (hb : Binds X.K fd ps [])
    (ha : PA X (e :: es) t) (hdb : (x == ("__debug__" : Str)) = false := by decide) (he : starEach (e :: es) X.env = (false, eval e X.env) :: starEach es X.env := by rfl) (hpl : (backTo pos (starEach es X.env)).any (·.1) = false := by rfl) :
    PE X (.Call (.Name x p) (e :: es) [] pos) (tCall sp [] E0 t) := by
  refine ⟨fun pins s σ H Q I h => ?_⟩
  refine wpAny_Call_Name_kw (ld_glob I hg hm ?_ hdb)
  refine PySem.W.callWith_K (h₀ := X.base) I.ok.mod.kin hk (thn (ha.run pos pins s σ H _ I h) fun us s1 ⟨vs, H1, I1, r, q⟩ => ⟨I1.kIn, ?_⟩) he hpl
  have q : sp vs H1 Q E0 := by
    have q2 : sp (vs ++ []) H1 Q E0 := q
    rw [List.append_nil] at q2
    exact q2
  have hl : us.length = ps.length := by rw [← r.length]; exact F.len _ _ _ _ q
  have b := hb s1 us I1.kIn (by rw [List.append_nil]; exact hl)
  rw [List.append_nil] at b
  refine wpAny_call (codeAny_mono (F.run X.A hr hgd X.stack s1 H1 ⟨us, []⟩ us vs Q E0 I1.env0 b r q) fun r s' hq => ?_)
  cases r with
  | error e => exact pass0 pins σ H1 s1 e s' I1 hq
  | ok fl =>
    cases fl with
    | ret u => exact I1.after hq
    | next => exact False.elim hq
    | brk => exact False.elim hq
    | cont => exact False.elim hq
end
end Fd
set_option Elab.async false
set_option linter.all false
set_option maxRecDepth 100000
set_option maxHeartbeats 4000000
namespace Fd
open PySem PySem.Spec PyProof.Rows L2 PySem.W
theorem eqv_tI (a b : List Int) : PyData.eqv (tI a) (tI b) = decide (a = b) := by
  show PyData.eqv (.tuple (a.map .int)) (.tuple (b.map .int)) = _
  rw [PyData.eqv]
  exact ked_eqvAll a b
theorem lay_ints : ∀ a : List Int, PyData.canLayAll0 (a.map .int) = true
  | [] => by simp [PyData.canLayAll0]
  | x :: a => by
    show PyData.canLayAll0 (.int x :: a.map .int) = true
    rw [PyData.canLayAll0, lay_ints a]
    simp [PyData.canLay0]
theorem shaped_tI (a : List Int) : SeqAt.shaped (tI a) = true := by
  unfold SeqAt.shaped
  have h1 : (tI a).canLay0 = true := by
    show PyData.canLay0 (.tuple (a.map .int)) = true
    rw [PyData.canLay0]; exact lay_ints a
  have h2 : (tI a).depth ≤ 64 := by
    show PyData.depth (.tuple (a.map .int)) ≤ 64
    rw [PyData.depth, depth_ints]; decide
  rw [h1, decide_eq_true h2]; rfl
theorem lay_tIs : ∀ a : List (List Int), PyData.canLayAll0 (a.map tI) = true
  | [] => by simp [PyData.canLayAll0]
  | x :: a => by
    show PyData.canLayAll0 (tI x :: a.map tI) = true
    have h1 : (tI x).canLay0 = true := by
      show PyData.canLay0 (.tuple (x.map .int)) = true
      rw [PyData.canLay0]; exact lay_ints x
    rw [PyData.canLayAll0, lay_tIs a, h1]; rfl
theorem depth_tIs : ∀ a : List (List Int), PyData.depthAll (a.map tI) ≤ 1
  | [] => by simp [PyData.depthAll]
  | x :: a => by
    have := depth_tIs a
    rw [List.map_cons, PyData.depthAll]
    have h : (tI x).depth ≤ 1 := by
      show PyData.depth (.tuple (x.map .int)) ≤ 1
      rw [PyData.depth, depth_ints]; decide
    omega
/-- a list of tuples of ints -/
theorem shaped_LI (a : List (List Int)) : SeqAt.shaped (.list (a.map tI)) = true := by
  unfold SeqAt.shaped
  have h1 : (PyData.list (a.map tI)).canLay0 = true := by rw [PyData.canLay0]; exact lay_tIs a
  have h2 : (PyData.list (a.map tI)).depth ≤ 64 := by
    rw [PyData.depth]
    have := depth_tIs a
    omega
  rw [h1, decide_eq_true h2]; rfl
end Fd
set_option Elab.async false
set_option linter.all false
set_option maxRecDepth 100000
set_option maxHeartbeats 4000000
namespace Fd
open PySem PySem.Spec PyProof.Rows L2 PySem.W
theorem any_tI (g : List Int) : ∀ ps : List (List Int), ((ps.map tI).any fun z => PyData.eqv z (tI g)) = decide (g ∈ ps)
  | [] => by simp
  | p :: ps => by
    rw [List.map_cons, List.any_cons, any_tI g ps, eqv_tI]
    by_cases c : p = g
    · simp [c]
    · have c' : ¬ g = p := fun z => c z.symm
      simp [c, c']
theorem idx_tI {g : List Int} {ps : List (List Int)} (h : g ∈ ps) : ∃ z, (ps.map tI)[ps.idxOf g]? = some z ∧ PyData.eqv z (tI g) = true ∧ ∀ (m : Nat) (z' : PyData), m < ps.idxOf g → (ps.map tI)[m]? = some z' → PyData.eqv z' (tI g) = false := by
  have hl := List.idxOf_lt_length_of_mem h
  refine ⟨tI g, ?_, by rw [eqv_tI]; simp, fun m z' hm hz => ?_⟩
  · rw [List.getElem?_map, List.getElem?_eq_getElem hl, List.getElem_idxOf hl]; rfl
  · rw [List.getElem?_map] at hz
    cases e : ps[m]? with
    | none => rw [e] at hz; cases hz
    | some x =>
      rw [e] at hz
      have e2 : tI x = z' := Option.some.inj hz
      rw [← e2, eqv_tI]
      refine decide_eq_false fun c => ?_
      subst c
      obtain ⟨h1, h2⟩ := List.getElem?_eq_some_iff.mp e
      have h3 : ps[m] == x := by rw [h2]; simp
      have := List.not_of_lt_findIdx (p := fun y => y == x) hm
      rw [h2] at this
      simp at this
end Fd
set_option Elab.async false
set_option linter.all false
set_option maxRecDepth 100000
set_option maxHeartbeats 4000000
/-! Data that repr may be asked of. -/
namespace Fd
open PySem PySem.Spec PyProof.Rows L2 PySem.W
structure RO (D W : Nat) (d : PyData) : Prop where
  sh : d.showable = true
  nd : d.hasDict = false
  dp : d.depth ≤ D
  ls : d.leavesShort 13 = true
  wt : d.weight + 1 ≤ W
structure ROs (D W : Nat) (ds : List PyData) : Prop where
  sh : PyData.showableAll ds = true
  nd : PyData.hasDictAll ds = false
  dp : PyData.depthAll ds ≤ D
  ls : PyData.leavesShortAll 13 ds = true
  wt : PyData.weightAll ds ≤ ds.length * W
theorem ROs.of {D W : Nat} : ∀ {ds : List PyData}, (∀ d ∈ ds, RO D W d) → ROs D W ds
  | [], _ => ⟨by simp [PyData.showableAll], by simp [PyData.hasDictAll], by simp [PyData.depthAll], by simp [PyData.leavesShortAll], by simp [PyData.weightAll]⟩
  | d :: ds, h => by
    have h1 := h d (by simp)
    have h2 : ROs D W ds := ROs.of fun x hx => h x (by simp [hx])
    refine ⟨by rw [PyData.showableAll, h1.sh, h2.sh]; rfl, by rw [PyData.hasDictAll, h1.nd, h2.nd]; rfl, ?_, by rw [PyData.leavesShortAll, h1.ls, h2.ls]; rfl, ?_⟩
    · rw [PyData.depthAll]; have := h1.dp; have := h2.dp; omega
    · rw [PyData.weightAll, List.length_cons, Nat.succ_mul]; have := h1.wt; have := h2.wt; omega
theorem RO.tup {D W n : Nat} {ds : List PyData} (h : ∀ d ∈ ds, RO D W d) (hn : ds.length ≤ n) : RO (D + 1) (n * W + 1) (.tuple ds) := by
  have h2 := ROs.of h
  have h3 := Nat.mul_le_mul_right W hn
  exact ⟨by rw [PyData.showable]; exact h2.sh, by rw [PyData.hasDict]; exact h2.nd, by rw [PyData.depth]; have := h2.dp; omega, by rw [PyData.leavesShort]; exact h2.ls, by rw [PyData.weight]; have := h2.wt; omega⟩
theorem RO.lst {D W n : Nat} {ds : List PyData} (h : ∀ d ∈ ds, RO D W d) (hn : ds.length ≤ n) : RO (D + 1) (n * W + 1) (.list ds) := by
  have h2 := ROs.of h
  have h3 := Nat.mul_le_mul_right W hn
  exact ⟨by rw [PyData.showable]; exact h2.sh, by rw [PyData.hasDict]; exact h2.nd, by rw [PyData.depth]; have := h2.dp; omega, by rw [PyData.leavesShort]; exact h2.ls, by rw [PyData.weight]; have := h2.wt; omega⟩
theorem RO.int {i : Int} (h : i.natAbs < 1000000) : RO 0 21 (.int i) := by
  refine ⟨?_, by simp [PyData.hasDict], by simp [PyData.depth], ?_, ?_⟩
  · rw [PyData.showable]
    refine decide_eq_true ?_
    by_cases z : i.natAbs = 0
    · rw [z]; decide
    · have : i.natAbs.log2 < 20 := (Nat.log2_lt z).mpr (by omega)
      omega
  · rw [PyData.leavesShort]
    exact decide_eq_true (PyData.shown_int_le (by omega))
  · rw [PyData.weight]
    by_cases z : i = 0
    · simp [z]
    · have z' : i.natAbs ≠ 0 := by omega
      have : i.natAbs.log2 < 20 := (Nat.log2_lt z').mpr (by omega)
      simp [z]; omega
theorem RO.mono {D D' W W' : Nat} {d : PyData} (x : RO D W d) (h : D ≤ D') (h' : W ≤ W') : RO D' W' d := ⟨x.sh, x.nd, Nat.le_trans x.dp h, x.ls, Nat.le_trans x.wt h'⟩
theorem RO.fits {D W : Nat} {d : PyData} (x : RO D W d) (h : W ≤ 2 ^ 20) : d.shown.length ≤ sizeLine := PyData.shown_fits (B := 13) (by decide) (by decide) x.ls (by have := x.wt; omega)
/-- the data of moves and of closings -/
def encM (mv : List (List (List Int))) : PyData := .tuple (mv.map fun r => .tuple (r.map tI))
def encC (cl : List (List Int)) : PyData := .tuple (cl.map tI)
theorem ro_I {ns : List Int} {n : Nat} (h : ∀ x ∈ ns, x.natAbs < 1000000) (hn : ns.length ≤ n) : RO 1 (n * 21 + 1) (tI ns) := RO.tup (fun d hd => by
  obtain ⟨x, hx, rfl⟩ := List.mem_map.mp hd
  exact RO.int (h x hx)) (by rw [List.length_map]; exact hn)
theorem ro_M {mv : List (List (List Int))} {n1 n2 : Nat} (h : ∀ r ∈ mv, r.length ≤ n2 ∧ ∀ m ∈ r, m.length ≤ 4 ∧ ∀ x ∈ m, x.natAbs < 1000000) (hn : mv.length ≤ n1) : RO 3 (n1 * (n2 * 85 + 1) + 1) (encM mv) := RO.tup (fun d hd => by
  obtain ⟨r, hr, rfl⟩ := List.mem_map.mp hd
  exact RO.tup (fun d hd => by
    obtain ⟨m, hm, rfl⟩ := List.mem_map.mp hd
    exact ro_I ((h r hr).2 m hm).2 ((h r hr).2 m hm).1) (by rw [List.length_map]; exact (h r hr).1)) (by rw [List.length_map]; exact hn)
theorem ro_C {cl : List (List Int)} {n1 n2 : Nat} (h : ∀ r ∈ cl, r.length ≤ n2 ∧ ∀ x ∈ r, x.natAbs < 1000000) (hn : cl.length ≤ n1) : RO 2 (n1 * (n2 * 21 + 1) + 1) (encC cl) := RO.tup (fun d hd => by
  obtain ⟨r, hr, rfl⟩ := List.mem_map.mp hd
  exact ro_I (h r hr).2 (h r hr).1) (by rw [List.length_map]; exact hn)
end Fd
set_option Elab.async false
set_option linter.all false
set_option maxRecDepth 100000
set_option maxHeartbeats 4000000
namespace Fd
open PySem PySem.Spec PyProof.Rows L2 PySem.W
/-! ### what may be laid -/
structure Ly (D : Nat) (d : PyData) : Prop where
  c : d.canLay0 = true
  d : d.depth ≤ D
theorem Ly.all {D : Nat} : ∀ {ds : List PyData}, (∀ d ∈ ds, Ly D d) → PyData.canLayAll0 ds = true ∧ PyData.depthAll ds ≤ D
  | [], _ => ⟨by simp [PyData.canLayAll0], by simp [PyData.depthAll]⟩
  | d :: ds, h => by
    have h1 := h d (by simp)
    obtain ⟨h2, h3⟩ := Ly.all (fun x hx => h x (by simp [hx]) : ∀ d ∈ ds, Ly D d)
    refine ⟨by rw [PyData.canLayAll0, h1.c, h2]; rfl, ?_⟩
    rw [PyData.depthAll]
    have := h1.d
    omega
theorem Ly.tup {D : Nat} {ds : List PyData} (h : ∀ d ∈ ds, Ly D d) : Ly (D + 1) (.tuple ds) := by
  obtain ⟨h2, h3⟩ := Ly.all h
  exact ⟨by rw [PyData.canLay0]; exact h2, by rw [PyData.depth]; omega⟩
theorem Ly.int {i : Int} : Ly 0 (.int i) := ⟨by rw [PyData.canLay0], by simp [PyData.depth]⟩
theorem Ly.shaped {D : Nat} {d : PyData} (x : Ly D d) (h : D ≤ 64) : SeqAt.shaped d = true := by
  unfold SeqAt.shaped
  rw [x.c, decide_eq_true (Nat.le_trans x.d h)]; rfl
theorem ly_I (a : List Int) : Ly 1 (tI a) := Ly.tup fun d hd => by
  obtain ⟨x, _, rfl⟩ := List.mem_map.mp hd
  exact Ly.int
theorem ly_C (cl : List (List Int)) : Ly 2 (encC cl) := Ly.tup fun d hd => by
  obtain ⟨x, _, rfl⟩ := List.mem_map.mp hd
  exact ly_I x
theorem ly_M (mv : List (List (List Int))) : Ly 3 (encM mv) := Ly.tup fun d hd => by
  obtain ⟨x, _, rfl⟩ := List.mem_map.mp hd
  exact Ly.tup fun d hd => by
    obtain ⟨y, _, rfl⟩ := List.mem_map.mp hd
    exact ly_I y
theorem MV.enc : Enc MV encM := TT.enc (TT.enc TI.enc)
theorem CL.enc : Enc CL encC := TT.enc TI.enc
/-- the same data are equal -/
theorem eq_same {K : Frag} {H : Hp} {x y : V} {d : PyData} {D : Nat} {Q : VK} (h1 : Dp K H x d) (h2 : Dp K H y d) (l : Ly D d) (hD : D ≤ 64) (q : Q (.bl true) H) : rEqD K x y H Q :=
  ⟨d, d, h1, h2, l.shaped hD, l.shaped hD, by rw [SeqAt.eqv_refl d l.c]; exact q⟩
/-- two offices of one text of data -/
def Same (K : Frag) (C CO : Addr) (a b : Addr) (H : Hp) : Prop := ∃ o, OC K C ∧ OfAt C H a o ∧ OfAt C H b o ∧ (∃ t, (∀ dx fs, H b = some (.ins C dx fs) → TyX K H (.ref b) t) ∧ kitOne K t (.ref CO) = some true)
section
variable {P : Program} {w : World} {K : PySem.W.Frag} {mg : Str → Option Value} {base : Heap} (T : Txt K mg)
include T
theorem ok_Office_eq_ (C : Addr) : FnOk P w K mg base CX0 1 T.a_Office_eq T.d_Office_eq P_Office_eq (spEq (Same K C T.a_Office)) := by
  refine T.F_Office_eq.ok sc_Office_eq (fun vs H Q E h => ?_) (fun cdv A outer s H vs Q E hr h => ?_)
  · obtain ⟨a, b, rfl, _⟩ := h; rfl
  · obtain ⟨a, b, rfl, ⟨o, oc, of1, of2, t, ty, kt⟩, k⟩ := h
    obtain ⟨dx1, vs1, vm1, vc1, lk1, ds1, h1, z1, m1, c1, _, _⟩ := of1.ex
    obtain ⟨dx2, vs2, vm2, vc2, lk2, ds2, h2, z2, m2, c2, _, _⟩ := of2.ex
    refine ⟨_, (pss_cons (ps_if (pt_not (pt_val (pe_callB call_isi (by rfl) T.n_isinstance (by decide +kernel) (pa_cons (pv 1) (pa_cons (pe_glob (v := .ref T.a_Office) rfl T.g_Office rfl) pa_nil))))) (pss_one (ps_ret pe_bl)) pss_nil)
  (pss_one (ps_ret (pe_and (pe_cmpR (op_eqD hr.units) (pe_fld (pv 0) rfl) (pe_fld (pv 1) rfl) (nomark _)) (pe_and (pe_cmpR (op_eqD hr.units) (pe_fld (pv 0) rfl) (pe_fld (pv 1) rfl) (nomark _)) (pe_one (pe_cmpR (op_eqD hr.units) (pe_fld (pv 0) rfl) (pe_fld (pv 1) rfl) (nomark _)))))))), ?_⟩
    refine ⟨_, rfl, .ref b, .ref T.a_Office, t, .ref T.a_Office, true, rfl, .own _, ty _ _ h2, kt, ?_⟩
    refine ⟨true, rfl, iteF (stepT ?_)⟩
    refine ⟨_, rfl, a, C, dx1, _, _, rfl, h1, oc.c, oc.n1, offF_s _ _ _ _, _, rfl, b, C, dx2, _, _, rfl, h2, oc.c, oc.n1, offF_s _ _ _ _, eq_same (TI.enc K _ _ _ z1) (TI.enc K _ _ _ z2) (ly_I _) (by decide) ⟨true, rfl, iteT ?_⟩⟩
    refine ⟨_, rfl, a, C, dx1, _, _, rfl, h1, oc.c, oc.n2, offF_m _ _ _ _, _, rfl, b, C, dx2, _, _, rfl, h2, oc.c, oc.n2, offF_m _ _ _ _, eq_same (MV.enc K _ _ _ m1) (MV.enc K _ _ _ m2) (ly_M _) (by decide) ⟨true, rfl, iteT ?_⟩⟩
    exact ⟨_, rfl, a, C, dx1, _, _, rfl, h1, oc.c, oc.n3, offF_c _ _ _ _, _, rfl, b, C, dx2, _, _, rfl, h2, oc.c, oc.n3, offF_c _ _ _ _, eq_same (CL.enc K _ _ _ c1) (CL.enc K _ _ _ c2) (ly_C _) (by decide) (k H Ext.rfl')⟩
theorem ok_Office_eq : FnOk P w K mg base CX0 1 T.a_Office_eq T.d_Office_eq P_Office_eq (spEq (Same K T.a_Office T.a_Office)) := ok_Office_eq_ T _
end
end Fd
set_option Elab.async false
set_option linter.all false
set_option maxRecDepth 100000
set_option maxHeartbeats 4000000
namespace Fd
open PySem PySem.Spec PyProof.Rows L2 PySem.W
theorem std_at {C hd ca : Addr} {H : Hp} {p : Addr} {o : Ofc} (x : OfAt C H p o) (h : HandAt H hd ca) : OfAt C (Hd (fun x => x = hd) H) p o := by
  obtain ⟨osz, omv, ocl⟩ := o
  obtain ⟨dx', vs, vm, vc, l, ds, h1, h2, h3, h4, h5, h6⟩ := x.ex
  obtain ⟨cells, i, b, s, c, hh, _⟩ := h
  have tx : Tx H (Hd (fun x => x = hd) H) := ⟨fun a xs e => Hd.get (fun z => by rw [z, hh] at e; cases e) e⟩
  have nl : l ≠ hd := fun z => by
    rw [z, hh] at h5
    have h6' : Paired (Kept H) ds omv := h6
    clear h6
    have e : hand5 ca i b s c = ds := by injection h5 with h5; injection h5
    rw [← e] at h6'
    cases h6' with
    | cons _ t =>
      cases t with
      | cons q _ =>
        obtain ⟨d, kvs, z, _⟩ := q
        cases z
  refine ⟨dx', vs, vm, vc, l, ds, Hd.get (fun z => by rw [z, hh] at h1; cases h1) h1, TI.stb _ _ _ _ tx h2, TT.stb (TT.stb TI.stb) _ _ _ _ tx h3, TT.stb TI.stb _ _ _ _ tx h4, Hd.get nl h5, pimp (fun v row ⟨d, kvs, e, hd', g1, g2⟩ => ?_) h6⟩
  refine ⟨d, kvs, e, Hd.get (fun z => by rw [z, hh] at hd'; cases hd') hd', g1, fun st => (g2 st).imp id fun ⟨li, z1, z2⟩ => ⟨li, z1, Hd.get (fun z => ?_) z2⟩⟩
  rw [z, hh] at z2
  have e2 : hand5 ca i b s c = (goalsIn row st).map V.int := by injection z2 with z2; injection z2
  cases e3 : goalsIn row st with
  | nil => rw [e3] at e2; cases e2
  | cons x r => rw [e3] at e2; cases e2
/-- a shop is made -/
theorem mk_shop {K : Frag} {CS hd ca : Addr} {H : Hp} {v : V} {o : Ofc} {G : Addr → Hp → Prop} {E : XK} (hA : HandAt H hd ca) (st : Std K (fun a => a = hd) H v o)
    (k : ∀ p l H', Ke H H' → SH K CS hd ca p l H' o [] → (∃ dx, H' p = some (.ins CS dx (shF v (.ref l)))) → (∀ C q, v = .ref q → OfAt C (Hd (fun a => a = hd) H) q o → OfAt C (Hd (S3 hd p l) H') q o) → G p H') :
    ∀ x dx, H x = none → H dx = none → dx ≠ x → sp_shop CS (.ref x :: ([v] ++ [])) (upd (upd H dx (.own x)) x (.ins CS dx [])) (fun w H2 => w = .non ∧ G x H2) E := fun x dx hx hdx ndx => by
  have k1 : Ke H (upd (upd H dx (.own x)) x (.ins CS dx [])) := (Ke.new hdx).trans (Ke.new (by rw [upd_ne ndx.symm]; exact hx))
  refine ⟨x, dx, v, rfl, upd_same, fun l hl => ⟨rfl, ?_⟩⟩
  have nxl : x ≠ l := fun z => by rw [← z, upd_same] at hl; cases hl
  have hlH : H l = none := k1.free hl
  have k2 : Ke H (upd (upd (upd H dx (.own x)) x (.ins CS dx [])) x (.ins CS dx (putF "kept_now" v []))) := k1.mutNew hx
  have hl2 : (upd (upd (upd H dx (.own x)) x (.ins CS dx [])) x (.ins CS dx (putF "kept_now" v []))) l = none := by rw [upd_ne nxl.symm]; exact hl
  have k3 := (k2.trans (Ke.new (o := .lst []) hl2)).mutNew (o := .ins CS dx (shF v (.ref l))) hx
  have hp3 : (upd (upd (upd (upd (upd H dx (.own x)) x (.ins CS dx [])) x (.ins CS dx (putF "kept_now" v []))) l (.lst [])) x (.ins CS dx (shF v (.ref l)))) x = some (.ins CS dx (shF v (.ref l))) := upd_same
  have hl3 : (upd (upd (upd (upd (upd H dx (.own x)) x (.ins CS dx [])) x (.ins CS dx (putF "kept_now" v []))) l (.lst [])) x (.ins CS dx (shF v (.ref l)))) l = some (.lst []) := by rw [upd_ne nxl.symm]; exact upd_same
  generalize (upd (upd (upd (upd (upd H dx (.own x)) x (.ins CS dx [])) x (.ins CS dx (putF "kept_now" v []))) l (.lst [])) x (.ins CS dx (shF v (.ref l)))) = H' at k3 hp3 hl3 ⊢
  have mv : ∀ C q, v = .ref q → OfAt C (Hd (fun a => a = hd) H) q o → OfAt C (Hd (S3 hd x l) H') q o := fun C q _ of => of.ke (Ke.of fun a u e => by
    obtain ⟨e1, e2⟩ := Hd.at e
    refine Hd.get (fun z => ?_) (k3.at e2)
    rcases z with z | z | z
    · exact e1 z
    · rw [z, hx] at e2; cases e2
    · rw [z, hlH] at e2; cases e2)
  obtain ⟨q, C, rfl, oc, of⟩ := st
  exact k x l H' k3 ⟨hA.ke k3, fun z => hA.there.1 (by rw [← z]; exact hx), fun z => hA.there.1 (by rw [← z]; exact hlH), fun z => hA.there.2 (by rw [← z]; exact hx), fun z => hA.there.2 (by rw [← z]; exact hlH), nxl, dx, .ref q, [], hp3, hl3, ⟨q, C, rfl, oc, mv C q rfl of⟩, .nil⟩ ⟨dx, hp3⟩ mv
end Fd
set_option Elab.async false
set_option linter.all false
set_option maxRecDepth 100000
set_option maxHeartbeats 4000000
namespace Fd
open PySem PySem.Spec PyProof.Rows L2 PySem.W
/-! ### the law's data -/
structure D2 (o : Ofc) (n : Nat) : Prop where
  g : Good o.sz o.mv o.cl
  n5 : o.mv.length ≤ 5
  rows : ∀ r ∈ o.mv, r.length ≤ 6 + n
theorem D2.mono {o : Ofc} {n m : Nat} (d : D2 o n) (h : n ≤ m) : D2 o m := ⟨d.g, d.n5, fun r hr => by have := d.rows r hr; omega⟩
theorem D2.sz {o : Ofc} {n : Nat} (d : D2 o n) : ∃ a b c, o.sz = [a, b, c] ∧ (1 ≤ a ∧ a ≤ 4) ∧ (1 ≤ b ∧ b ≤ 4) ∧ 1 ≤ c ∧ c ≤ 4 := by
  obtain ⟨h1, h2⟩ := d.g.s
  match e : o.sz, h1 with
  | [a, b, c], _ =>
    rw [e] at h2
    exact ⟨a, b, c, rfl, h2 a (by simp), h2 b (by simp), h2 c (by simp)⟩
theorem D2.clen {o : Ofc} {n : Nat} (d : D2 o n) : o.cl.length = o.mv.length := by have := d.g.c.1; omega
theorem D2.clo {o : Ofc} {n : Nat} (d : D2 o n) : ∀ r ∈ o.cl, r.length ≤ 4 := fun r hr => by
  obtain ⟨h1, h2, _⟩ := d.g.c.2 r hr
  obtain ⟨a, b, c, ez, _, _, _, hc⟩ := d.sz
  refine short_of (n := 4) (List.Pairwise.imp (fun {a b} h => by omega) h2) fun k hk => ?_
  obtain ⟨a', b', c', e, g1, g2⟩ := h1 k hk
  rw [ez] at e
  obtain ⟨rfl, rfl, rfl⟩ : a = a' ∧ b = b' ∧ c = c' := by simpa using e
  have : (0 : Int) ≤ k := g1
  exact ⟨g1, by omega⟩
theorem D2.shp {o : Ofc} {n : Nat} (d : D2 o n) (hn : n ≤ 100) : Shp o where
  s3 := d.g.s.1
  n1 := d.g.m.1
  n2 := by have := d.g.m.2.1; omega
  cl := d.clen
  rw_ := fun r hr => ⟨by have := d.rows r hr; omega, fun m hm e => by
    obtain ⟨_, _, _, _, _, _, _, _, rfl, _⟩ := (d.g.m.2.2 r hr).1 m hm
    cases e⟩
  rc := fun r hr => by have := d.clo r hr; omega
  sh := fun _ => (good_sh d.g).2.2 d.g.s
theorem D2.wf {o : Ofc} {n : Nat} (d : D2 o n) : Wf o where
  sz := by
    obtain ⟨a, b, c, e, _⟩ := d.sz
    exact ⟨a, b, c, e, by omega, by omega, by omega⟩
  n1 := d.g.m.1
  n2 := by have := d.g.m.2.1; omega
  cl := d.clen
  mv := fun r hr => ⟨(d.g.m.2.2 r hr).2.2, (d.g.m.2.2 r hr).1⟩
  ck := fun r hr => ⟨(d.g.c.2 r hr).2.2, fun k hk => by
    obtain ⟨a, b, c, e, h1, h2⟩ := (d.g.c.2 r hr).1 k hk
    have := d.g.s.2 c (by rw [e]; simp)
    omega⟩
theorem reach_ok {o : Ofc} (wf : Wf o) {s : List Int} (h : Reach o s) : SetOk o s := by
  cases h with
  | z => exact ⟨by simp, by simp, fun x hx => by rw [List.mem_singleton.mp hx]; have := wf.n1; omega⟩
  | s _ _ hn => exact goals_ok wf.goals hn
theorem D2.few {o : Ofc} {n : Nat} (d : D2 o n) : ¬ Over o := fun ⟨l, nd, e, h⟩ => by
  have h1 := len_sub (b := subsOf (ran o.mv.length)) nd fun s hs => mem_subsOf (ran_sorted _) (reach_ok d.wf (h s hs)).2.1 fun x hx => mem_ran.mpr ((reach_ok d.wf (h s hs)).2.2 x hx)
  have h2 : (ran o.mv.length).length = o.mv.length := by unfold ran; simp
  rw [len_subsOf, h2, e] at h1
  have := Nat.pow_le_pow_right (show 0 < 2 by decide) d.n5
  omega
theorem D2.steps {o : Ofc} {n : Nat} (d : D2 o n) : (stepsOf o).length ≤ 250 := by
  obtain ⟨a, b, c, ez, ha, hb, hc⟩ := d.sz
  have lr : ∀ x : Int, x ≤ 4 → (ran x).length ≤ 4 := fun x h => by unfold ran; rw [List.length_map, List.length_range]; omega
  have e : stepsOf o = stepsM a b c := by unfold stepsOf; rw [ez]; rfl
  rw [e]
  unfold stepsM
  have h1 := flat_len (f := fun x => (ran c).map fun k => x ++ [k]) (n := 4) (fun x => by rw [List.length_map]; exact lr c hc.2) ((ran a).flatMap fun s => (ran b).map fun n => [s, n])
  have h2 := flat_len (f := fun s => (ran b).map fun n => [s, n]) (n := 4) (fun x => by rw [List.length_map]; exact lr b hb.2) (ran a)
  have h3 := lr a ha.2
  omega
/-- the two parts, as data -/
def enc2 (o : Ofc) : PyData := .list [encM o.mv, encC o.cl]
theorem D2.ro {o : Ofc} {n : Nat} (d : D2 o n) (hn : n ≤ 40) : RO 4 (2 * (5 * (46 * 85 + 1) + 1) + 1) (enc2 o) := RO.lst (n := 2) (fun e he => by
  obtain ⟨a, b, c, ez, ha, hb, hc⟩ := d.sz
  simp only [List.mem_cons, List.mem_nil_iff, or_false] at he
  rcases he with rfl | rfl
  · refine ro_M (n2 := 46) (fun r hr => ⟨by have := d.rows r hr; omega, fun m hm => ?_⟩) d.n5
    obtain ⟨a', b', c', s, n, k, g, e, rfl, h1, h2, h3, h4, h5⟩ := (d.g.m.2.2 r hr).1 m hm
    rw [ez] at e
    obtain ⟨rfl, rfl, rfl⟩ : a = a' ∧ b = b' ∧ c = c' := by simpa using e
    refine ⟨Nat.le_refl 4, fun x hx => ?_⟩
    have n5 := d.n5
    simp only [List.mem_cons, List.mem_nil_iff, or_false] at hx
    rcases hx with rfl | rfl | rfl | rfl <;> omega
  · refine (ro_C (n1 := 5) (n2 := 4) (fun r hr => ⟨d.clo r hr, fun x hx => ?_⟩) (by have := d.clen; have := d.n5; omega)).mono (by decide) (by decide)
    obtain ⟨a', b', c', e, h1, h2⟩ := (d.g.c.2 r hr).1 x hx
    rw [ez] at e
    obtain ⟨rfl, rfl, rfl⟩ : a = a' ∧ b = b' ∧ c = c' := by simpa using e
    omega) (Nat.le_refl 2)
/-! what deeds make of it -/
theorem D2.setM {o : Ofc} {n m i : Nat} {r' : List (List Int)} (d : D2 o n) (h : n ≤ m) (h1 : ∀ x ∈ r', MoveOk o.sz o.mv.length x) (h2 : r'.Pairwise (· < ·)) (h3 : r'.length ≤ 6 + m) (hm : m ≤ 1000) : D2 ⟨o.sz, o.mv.set i r', o.cl⟩ m := by
  refine ⟨⟨d.g.s, ⟨by rw [List.length_set]; exact d.g.m.1, by rw [List.length_set]; exact d.g.m.2.1, fun r hr => ?_⟩, by rw [List.length_set]; exact d.g.c⟩, by rw [List.length_set]; exact d.n5, fun r hr => ?_⟩
  · rw [List.length_set]
    rcases List.mem_or_eq_of_mem_set hr with z | z
    · exact d.g.m.2.2 r z
    · rw [z]; exact ⟨h1, h2, by omega⟩
  · rcases List.mem_or_eq_of_mem_set hr with z | z
    · have := d.rows r z; omega
    · rw [z]; exact h3
theorem D2.setC {o : Ofc} {n i : Nat} {r' : List Int} (d : D2 o n) (h1 : ∀ x ∈ r', MarkOk o.sz x) (h2 : r'.Pairwise (· < ·)) (h3 : r'.length < 1000000) : D2 ⟨o.sz, o.mv, o.cl.set i r'⟩ n := by
  refine ⟨⟨d.g.s, d.g.m, by rw [List.length_set]; exact d.g.c.1, fun r hr => ?_⟩, d.n5, d.rows⟩
  rcases List.mem_or_eq_of_mem_set hr with z | z
  · exact d.g.c.2 r z
  · rw [z]; exact ⟨h1, h2, h3⟩
theorem cut_sub {α : Type} (r : List α) (j : Nat) : (r.take j ++ r.drop (j + 1)).Sublist r := by
  have h : r = r.take j ++ r.drop j := (List.take_append_drop j r).symm
  conv => rhs; rw [h]
  refine List.Sublist.append (List.Sublist.refl _) ?_
  rw [← List.drop_drop]
  exact List.drop_sublist 1 _
theorem D2.strike {o : Ofc} {n i j : Nat} {row : List (List Int)} (d : D2 o n) (hn : n ≤ 1000) (h : o.mv[i]? = some row) : D2 ⟨o.sz, o.mv.set i (row.take j ++ row.drop (j + 1)), o.cl⟩ n := by
  have hm := List.mem_of_getElem? h
  obtain ⟨g1, g2, g3⟩ := d.g.m.2.2 row hm
  have s := cut_sub row j
  exact d.setM (Nat.le_refl n) (fun x hx => g1 x (s.subset hx)) (g2.sublist s) (by have := s.length_le; have := d.rows row hm; omega) hn
theorem D2.put {o : Ofc} {n i : Nat} {row : List (List Int)} {m : List Int} (d : D2 o n) (hn : n ≤ 100) (h : o.mv[i]? = some row) (hx : m ∉ row) (hm : MoveOk o.sz o.mv.length m) : D2 ⟨o.sz, o.mv.set i (sortT (row ++ [m])), o.cl⟩ (n + 1) := by
  have hr := List.mem_of_getElem? h
  obtain ⟨g1, g2, g3⟩ := d.g.m.2.2 row hr
  have nd : (row ++ [m]).Nodup := L2.nd_snoc (List.Pairwise.imp (fun {a b} q e => by rw [e] at q; exact List.lt_irrefl _ q) g2) hx
  refine d.setM (Nat.le_succ n) (fun x hx => ?_) (strict_sortT nd) (by rw [len_sortT, List.length_append, List.length_singleton]; have := d.rows row hr; omega) (by omega)
  rcases List.mem_append.mp (mem_sortT.mp hx) with z | z
  · exact g1 x z
  · rw [List.mem_singleton.mp z]; exact hm
theorem D2.shutsN {o : Ofc} {n i : Nat} {row : List Int} {k : Int} (d : D2 o n) (h : o.cl[i]? = some row) : D2 ⟨o.sz, o.mv, o.cl.set i (row.filter fun x => decide (x ≠ k))⟩ n := by
  obtain ⟨g1, g2, g3⟩ := d.g.c.2 row (List.mem_of_getElem? h)
  exact d.setC (fun x hx => g1 x (List.mem_filter.mp hx).1) (g2.sublist List.filter_sublist) (by have := List.length_filter_le (fun x => decide (x ≠ k)) row; omega)
theorem D2.shuts {o : Ofc} {n i : Nat} {row : List Int} {k : Int} (d : D2 o n) (h : o.cl[i]? = some row) (hx : k ∉ row) (hk : MarkOk o.sz k) : D2 ⟨o.sz, o.mv, o.cl.set i (sortI (row ++ [k]))⟩ n := by
  obtain ⟨g1, g2, g3⟩ := d.g.c.2 row (List.mem_of_getElem? h)
  have nd : (row ++ [k]).Nodup := L2.nd_snoc (List.Pairwise.imp (fun {a b} q => by omega) g2) hx
  have l4 := d.clo row (List.mem_of_getElem? h)
  refine d.setC (fun x hx => ?_) (sorted_lt (sorted_sortI _) ((perm_sortI _).nodup_iff.mpr nd)) (by rw [len_sortI, List.length_append, List.length_singleton]; omega)
  rcases List.mem_append.mp (mem_sortI.mp hx) with z | z
  · exact g1 x z
  · rw [List.mem_singleton.mp z]; exact hk
theorem D2.add {o : Ofc} {n : Nat} (d : D2 o n) (h : o.mv.length < 5) : D2 ⟨o.sz, o.mv ++ [[]], o.cl ++ [[]]⟩ n := by
  have en : (((o.mv ++ [[]]).length : Nat) : Int) = (o.mv.length : Int) + 1 := by rw [List.length_append, List.length_singleton]; omega
  refine ⟨⟨d.g.s, ⟨by simp, by simp; omega, fun r hr => ?_⟩, ⟨by rw [en, List.length_append, List.length_singleton]; have := d.g.c.1; omega, fun r hr => ?_⟩⟩, by rw [List.length_append, List.length_singleton]; omega, fun r hr => ?_⟩
  · rw [en]
    rcases List.mem_append.mp hr with y | y
    · obtain ⟨h1, h2, h3⟩ := d.g.m.2.2 r y
      exact ⟨fun m hm => (h1 m hm).mono (by omega), h2, h3⟩
    · rw [List.mem_singleton.mp y]; exact ⟨(fun m hm => by cases hm), .nil, by decide⟩
  · rcases List.mem_append.mp hr with y | y
    · exact d.g.c.2 r y
    · rw [List.mem_singleton.mp y]; exact ⟨(fun m hm => by cases hm), .nil, by decide⟩
  · rcases List.mem_append.mp hr with y | y
    · exact d.rows r y
    · rw [List.mem_singleton.mp y]; simp
/-! ### lists beside an office -/
/-- a list whose first item is no dict -/
def RL (H : Hp) (a : Addr) : Prop := ∃ r rest u, H a = some (.lst (.ref r :: rest)) ∧ H r = some u ∧ ∀ kvs, u ≠ .dT kvs
/-- an office leans on no such list -/
theorem off_hide {C : Addr} {S : Addr → Prop} {H : Hp} {q a : Addr} {o : Ofc} (x : OfAt C (Hd S H) q o) (r : RL H a) : OfAt C (Hd (fun b => S b ∨ b = a) H) q o := by
  obtain ⟨osz, omv, ocl⟩ := o
  obtain ⟨dx', vs, vm, vc, l, ds, h1, h2, h3, h4, h5, h6⟩ := x.ex
  obtain ⟨ra, rest, u, ha, hu, nu⟩ := r
  have get : ∀ {b : Addr} {w : HO}, b ≠ a → Hd S H b = some w → Hd (fun b => S b ∨ b = a) H b = some w := fun n e => by
    obtain ⟨e1, e2⟩ := Hd.at e
    exact Hd.get (fun z => z.elim e1 n) e2
  have tx : Tx (Hd S H) (Hd (fun b => S b ∨ b = a) H) := ⟨fun b xs e => get (fun z => by
    have := (Hd.at e).2
    rw [z, ha] at this; cases this) e⟩
  have nl : l ≠ a := fun z => by
    have e := (Hd.at h5).2
    rw [z, ha] at e
    have h6' : Paired (Kept (Hd S H)) ds omv := h6
    clear h6
    have e : V.ref ra :: rest = ds := by injection e with e; injection e
    rw [← e] at h6'
    cases h6' with
    | cons g _ =>
      obtain ⟨d, kvs, z, hd, _⟩ := g
      cases z
      have := (Hd.at hd).2
      rw [hu] at this
      exact nu kvs (Option.some.inj this)
  refine ⟨dx', vs, vm, vc, l, ds, get (fun z => by have := (Hd.at h1).2; rw [z, ha] at this; cases this) h1, TI.stb _ _ _ _ tx h2, TT.stb (TT.stb TI.stb) _ _ _ _ tx h3, TT.stb TI.stb _ _ _ _ tx h4, get nl h5, pimp (fun v row ⟨d, kvs, e, hd', g1, g2⟩ => ?_) h6⟩
  refine ⟨d, kvs, e, get (fun z => by have := (Hd.at hd').2; rw [z, ha] at this; cases this) hd', g1, fun st => (g2 st).imp id fun ⟨li, z1, z2⟩ => ⟨li, z1, get (fun z => ?_) z2⟩⟩
  have e2 := (Hd.at z2).2
  rw [z, ha] at e2
  have e3 : V.ref ra :: rest = (goalsIn row st).map V.int := by injection e2 with e2; injection e2
  cases e4 : goalsIn row st with
  | nil => rw [e4] at e3; cases e3
  | cons x r => rw [e4] at e3; cases e3
end Fd
set_option Elab.async false
set_option linter.all false
set_option maxRecDepth 100000
set_option maxHeartbeats 4000000
namespace Fd
open PySem PySem.Spec PyProof.Rows L2 PySem.W
abbrev S5 (hd p l ml cl : Addr) : Addr → Prop := fun a => S3 hd p l a ∨ a = ml ∨ a = cl
structure Ne5 (hd ca p l ml cl : Addr) : Prop where
  m : ml ≠ hd ∧ ml ≠ ca ∧ ml ≠ p ∧ ml ≠ l
  c : cl ≠ hd ∧ cl ≠ ca ∧ cl ≠ p ∧ cl ≠ l
  mc : ml ≠ cl
theorem Ne5.nm {hd ca p l ml cl : Addr} (n : Ne5 hd ca p l ml cl) : ¬ S3 hd p l ml := fun z => z.elim n.m.1 fun z => z.elim n.m.2.2.1 n.m.2.2.2
theorem Ne5.nc {hd ca p l ml cl : Addr} (n : Ne5 hd ca p l ml cl) : ¬ S3 hd p l cl := fun z => z.elim n.c.1 fun z => z.elim n.c.2.2.1 n.c.2.2.2
/-- the law's own lists -/
structure LS (hd p l ml cl : Addr) (H : Hp) (mv : List (List (List Int))) (clo : List (List Int)) : Prop where
  m : ∃ ws, H ml = some (.lst ws) ∧ Paired (LL TI (Hd (S5 hd p l ml cl) H)) ws mv
  c : ∃ us, H cl = some (.lst us) ∧ Paired (LL II (Hd (S5 hd p l ml cl) H)) us clo
theorem LS.ks {hd ca p l ml cl : Addr} {H H' : Hp} {mv : List (List (List Int))} {clo : List (List Int)} (x : LS hd p l ml cl H mv clo) (n : Ne5 hd ca p l ml cl) (k : Ks (S3 hd p l) H H') : LS hd p l ml cl H' mv clo := by
  obtain ⟨ws, h1, h2⟩ := x.m
  obtain ⟨us, g1, g2⟩ := x.c
  have kk : Ke (Hd (S5 hd p l ml cl) H) (Hd (S5 hd p l ml cl) H') := Hd.ke (k.mono fun a z => .inl z)
  exact ⟨⟨ws, k.keep _ _ n.nm h1, pimp (fun v x r => LL.sto TI.stb.sto _ _ _ _ kk r) h2⟩, ⟨us, k.keep _ _ n.nc g1, pimp (fun v x r => LL.sto II.stb.sto _ _ _ _ kk r) g2⟩⟩
theorem LS.rm {hd p l ml cl : Addr} {H : Hp} {mv : List (List (List Int))} {clo : List (List Int)} (x : LS hd p l ml cl H mv clo) (h : mv ≠ []) : RL H ml := by
  obtain ⟨ws, h1, h2⟩ := x.m
  cases h2 with
  | nil => exact absurd rfl h
  | cons r _ =>
    obtain ⟨a, vs, rfl, ha, _⟩ := r
    exact ⟨a, _, _, h1, (Hd.at ha).2, fun kvs z => by cases z⟩
theorem LS.rc {hd p l ml cl : Addr} {H : Hp} {mv : List (List (List Int))} {clo : List (List Int)} (x : LS hd p l ml cl H mv clo) (h : clo ≠ []) : RL H cl := by
  obtain ⟨us, h1, h2⟩ := x.c
  cases h2 with
  | nil => exact absurd rfl h
  | cons r _ =>
    obtain ⟨a, vs, rfl, ha, _⟩ := r
    exact ⟨a, _, _, h1, (Hd.at ha).2, fun kvs z => by cases z⟩
/-- the shop stays where the law's lists change -/
theorem SH.other {K : Frag} {CS hd ca p l ml cl : Addr} {H H' : Hp} {o : Ofc} {os : List Ofc} (x : SH K CS hd ca p l H o os) (n : Ne5 hd ca p l ml cl) (r1 : RL H ml) (r2 : RL H cl) (k : Ks (fun a => a = ml ∨ a = cl) H H') : SH K CS hd ca p l H' o os := by
  obtain ⟨dx, q, past, h1, h2, h3, h4⟩ := x.ex
  have st : ∀ v o, Std K (S3 hd p l) H v o → Std K (S3 hd p l) H' v o := fun v o ⟨q, C, e, oc, of⟩ => by
    have h := off_hide (off_hide of r1) r2
    refine ⟨q, C, e, oc, h.ke (Ke.of fun a u e => ?_)⟩
    obtain ⟨e1, e2⟩ := Hd.at e
    exact Hd.get (fun z => e1 (.inl (.inl z))) (k.keep a u (fun z => z.elim (fun z => e1 (.inl (.inr z))) fun z => e1 (.inr z)) e2)
  exact ⟨x.hA.ks k (fun z => z.elim n.m.1.symm n.c.1.symm) (fun z => z.elim n.m.2.1.symm n.c.2.1.symm), x.n1, x.n2, x.n3, x.n4, x.n5, dx, q, past, k.keep _ _ (fun z => z.elim n.m.2.2.1.symm n.c.2.2.1.symm) h1, k.keep _ _ (fun z => z.elim n.m.2.2.2.symm n.c.2.2.2.symm) h2, st _ _ h3, pimp st h4⟩
theorem S5.old {K : Frag} {CS hd ca p l ml cl : Addr} {H : Hp} {o : Ofc} {os : List Ofc} {mv : List (List (List Int))} {clo : List (List Int)} (x : SH K CS hd ca p l H o os) (y : LS hd p l ml cl H mv clo) : ∀ a, S5 hd p l ml cl a → Old H a := by
  obtain ⟨cells, i, b, s, c, hh, _⟩ := x.hA
  obtain ⟨dx, q, past, h1, h2, _⟩ := x.ex
  obtain ⟨ws, h3, _⟩ := y.m
  obtain ⟨us, h4, _⟩ := y.c
  rintro a ((rfl | rfl | rfl) | rfl | rfl)
  · exact .lst hh
  · exact ⟨by rw [h1]; simp, fun xs z => by rw [h1] at z; cases z⟩
  · exact .lst h2
  · exact .lst h3
  · exact .lst h4
section
variable {hd ca p l ml cl : Addr} {H H5 : Hp} {mv : List (List (List Int))} {clo : List (List Int)} {q : Addr} {ws : List V}
theorem LS.up (hO : ∀ a, S5 hd p l ml cl a → Old H a) {u : HO} (m : ml = p ∨ True) : Le (Nw H H5) (Hd (S5 hd p l ml cl) (upd H5 ml u)) := fun a o e => by
  obtain ⟨n, e⟩ := Hd.at e
  have n' : ¬ S5 hd p l ml cl a := fun z => n (hO a z)
  exact Hd.get n' (by rw [upd_ne (fun z => n' (.inr (.inl z)))]; exact e)
theorem LS.upc (hO : ∀ a, S5 hd p l ml cl a → Old H a) {u : HO} : Le (Nw H H5) (Hd (S5 hd p l ml cl) (upd H5 cl u)) := fun a o e => by
  obtain ⟨n, e⟩ := Hd.at e
  have n' : ¬ S5 hd p l ml cl a := fun z => n (hO a z)
  exact Hd.get n' (by rw [upd_ne (fun z => n' (.inr (.inr z)))]; exact e)
theorem LS.setM (x : LS hd p l ml cl H mv clo) (hO : ∀ a, S5 hd p l ml cl a → Old H a) (nmc : ml ≠ cl) (k : Ke H H5) (hw : H ml = some (.lst ws)) {row : List (List Int)} (hq : LL TI (Nw H H5) (.ref q) row) (i : Nat) : LS hd p l ml cl (upd H5 ml (.lst (ws.set i (.ref q)))) (mv.set i row) clo := by
  obtain ⟨ws', h1, h2⟩ := x.m
  rw [hw] at h1
  cases h1
  obtain ⟨us, g1, g2⟩ := x.c
  have kk : Ke (Hd (S5 hd p l ml cl) H) (Hd (S5 hd p l ml cl) (upd H5 ml (.lst (ws.set i (.ref q))))) := Ke.of fun a o e => by
    obtain ⟨n, e⟩ := Hd.at e
    exact Hd.get n (by rw [upd_ne (fun z => n (.inr (.inl z)))]; exact k.at e)
  exact ⟨⟨_, upd_same, pset (LL.sto TI.stb.sto _ _ _ _ (Le.ke (LS.up hO (.inr trivial))) hq) i (pimp (fun v x r => LL.sto TI.stb.sto _ _ _ _ kk r) h2)⟩, ⟨us, by rw [upd_ne nmc.symm]; exact k.at g1, pimp (fun v x r => LL.sto II.stb.sto _ _ _ _ kk r) g2⟩⟩
theorem LS.setC (x : LS hd p l ml cl H mv clo) (hO : ∀ a, S5 hd p l ml cl a → Old H a) (nmc : ml ≠ cl) (k : Ke H H5) (hw : H cl = some (.lst ws)) {row : List Int} (hq : LL II (Nw H H5) (.ref q) row) (i : Nat) : LS hd p l ml cl (upd H5 cl (.lst (ws.set i (.ref q)))) mv (clo.set i row) := by
  obtain ⟨us, g1, g2⟩ := x.c
  rw [hw] at g1
  cases g1
  obtain ⟨vs, h1, h2⟩ := x.m
  have kk : Ke (Hd (S5 hd p l ml cl) H) (Hd (S5 hd p l ml cl) (upd H5 cl (.lst (ws.set i (.ref q))))) := Ke.of fun a o e => by
    obtain ⟨n, e⟩ := Hd.at e
    exact Hd.get n (by rw [upd_ne (fun z => n (.inr (.inr z)))]; exact k.at e)
  exact ⟨⟨vs, by rw [upd_ne nmc]; exact k.at h1, pimp (fun v x r => LL.sto TI.stb.sto _ _ _ _ kk r) h2⟩, ⟨_, upd_same, pset (LL.sto II.stb.sto _ _ _ _ (Le.ke (LS.upc hO)) hq) i (pimp (fun v x r => LL.sto II.stb.sto _ _ _ _ kk r) g2)⟩⟩
theorem LS.appM (x : LS hd p l ml cl H mv clo) (hO : ∀ a, S5 hd p l ml cl a → Old H a) (nmc : ml ≠ cl) (k : Ke H H5) (hw : H ml = some (.lst ws)) {row : List (List Int)} (hq : LL TI (Nw H H5) (.ref q) row) : LS hd p l ml cl (upd H5 ml (.lst (ws ++ [.ref q]))) (mv ++ [row]) clo := by
  obtain ⟨ws', h1, h2⟩ := x.m
  rw [hw] at h1
  cases h1
  obtain ⟨us, g1, g2⟩ := x.c
  have kk : Ke (Hd (S5 hd p l ml cl) H) (Hd (S5 hd p l ml cl) (upd H5 ml (.lst (ws ++ [.ref q])))) := Ke.of fun a o e => by
    obtain ⟨n, e⟩ := Hd.at e
    exact Hd.get n (by rw [upd_ne (fun z => n (.inr (.inl z)))]; exact k.at e)
  exact ⟨⟨_, upd_same, papp (pimp (fun v x r => LL.sto TI.stb.sto _ _ _ _ kk r) h2) (.cons (LL.sto TI.stb.sto _ _ _ _ (Le.ke (LS.up hO (.inr trivial))) hq) .nil)⟩, ⟨us, by rw [upd_ne nmc.symm]; exact k.at g1, pimp (fun v x r => LL.sto II.stb.sto _ _ _ _ kk r) g2⟩⟩
theorem LS.appC (x : LS hd p l ml cl H mv clo) (hO : ∀ a, S5 hd p l ml cl a → Old H a) (nmc : ml ≠ cl) (k : Ke H H5) (hw : H cl = some (.lst ws)) {row : List Int} (hq : LL II (Nw H H5) (.ref q) row) : LS hd p l ml cl (upd H5 cl (.lst (ws ++ [.ref q]))) mv (clo ++ [row]) := by
  obtain ⟨us, g1, g2⟩ := x.c
  rw [hw] at g1
  cases g1
  obtain ⟨vs, h1, h2⟩ := x.m
  have kk : Ke (Hd (S5 hd p l ml cl) H) (Hd (S5 hd p l ml cl) (upd H5 cl (.lst (ws ++ [.ref q])))) := Ke.of fun a o e => by
    obtain ⟨n, e⟩ := Hd.at e
    exact Hd.get n (by rw [upd_ne (fun z => n (.inr (.inr z)))]; exact k.at e)
  exact ⟨⟨vs, by rw [upd_ne nmc]; exact k.at h1, pimp (fun v x r => LL.sto TI.stb.sto _ _ _ _ kk r) h2⟩, ⟨_, upd_same, papp (pimp (fun v x r => LL.sto II.stb.sto _ _ _ _ kk r) g2) (.cons (LL.sto II.stb.sto _ _ _ _ (Le.ke (LS.upc hO)) hq) .nil)⟩⟩
theorem ixN_n {n j : Nat} (hj : j < n) : ixN n (j : Int) = some j := by
  unfold ixN
  rw [if_pos (by omega), if_pos (by omega)]
  simp
theorem any_mem_tI (m : List Int) : ∀ row : List (List Int), (row.map tI).any (fun z => PyData.eqv z (tI m)) = decide (m ∈ row)
  | [] => by simp
  | x :: r => by
    rw [List.map_cons, List.any_cons, any_mem_tI m r, eqv_tI]
    by_cases c : x = m
    · simp [c]
    · have c' : ¬ m = x := fun z => c z.symm
      simp [c, c']
/-- the lists alone have changed -/
theorem two_ks (k : Ke H H5) (h : (a : Addr) → a = ml ∨ a = cl → True) {a : Addr} {u : HO} (ha : a = ml ∨ a = cl) (hx : ∀ xs, H5 a ≠ some (.tup xs)) : Ks (fun a => a = ml ∨ a = cl) H (upd H5 a u) := (k.ks : Ks (fun a => a = ml ∨ a = cl) H H5).mut ha hx
end
def sp_lmove : Sp := fun xs H Q _ => ∃ hd ca u a b c many, xs = [.ref hd, u, .int many] ∧ HandAt H hd ca ∧ TI H u [a, b, c] ∧ (1 ≤ a ∧ a ≤ 4) ∧ (1 ≤ b ∧ b ≤ 4) ∧ (1 ≤ c ∧ c ≤ 4) ∧ (1 ≤ many ∧ many ≤ 20) ∧
  ∀ v s n k g H', (0 ≤ s ∧ s ≤ a - 1) → (0 ≤ n ∧ n ≤ b - 1) → (0 ≤ k ∧ k ≤ c - 1) → (0 ≤ g ∧ g ≤ many - 1) → Ks (fun a => a = hd) H H' → HandAt H' hd ca → TI H' v [s, n, k, g] → Q v H'
def sp_lchanged (K : Frag) (CS : Addr) : Sp := fun xs H Q _ => ∃ hd ca p l ml cl v o os n, xs = [.ref hd, .ref p, v, .ref ml, .ref cl] ∧ SH K CS hd ca p l H o os ∧ LS hd p l ml cl H o.mv o.cl ∧ Ne5 hd ca p l ml cl ∧ TI H v o.sz ∧ D2 o n ∧ n ≤ 30 ∧ os.length < 900 ∧
  (∀ t o' H', H' t = some (.tup [.bl true, .bl true]) → D2 o' (n + 1) → o'.sz = o.sz → Ks (S5 hd p l ml cl) H H' → SH K CS hd ca p l H' o' (os ++ [o]) → LS hd p l ml cl H' o'.mv o'.cl → Q (.ref t) H') ∧
  (∀ t H', H' t = some (.tup [.bl true, .bl false]) → Ks (S5 hd p l ml cl) H H' → SH K CS hd ca p l H' o os → LS hd p l ml cl H' o.mv o.cl → Q (.ref t) H')
section
variable {P : Program} {w : World} {K : PySem.W.Frag} {mg : Str → Option Value} {base : Heap} (T : Txt K mg)
section
include T
theorem ok_l_move : FnOk P w K mg base CX0 2 T.a_l_move T.d_l_move P_l_move sp_lmove := by
  refine T.F_l_move.ok sc_l_move (fun vs H Q E h => ?_) (fun cdv A outer s H vs Q E hr h => ?_)
  · obtain ⟨hd, ca, u, a, b, c, many, rfl, _⟩ := h; rfl
  · obtain ⟨hd, ca, u, a, b, c, many, rfl, hA, ⟨z, rfl, hz⟩, ha, hb, hc, hm, k⟩ := h
    refine ⟨_, (pss_cons (ps_set (i := 3) sc_l_move.nd rfl (Or.inl rfl) (pe_call (ok_l_draw T) (hr.mono (by decide)) rfl T.g_l_draw T.k_l_draw T.b_l_draw .nil pass0 (pa_cons (pv 0) (pa_cons (pe_ix ix_tup (pv 1) pe_int (fun _ _ => rfl)) pa_nil))))
  (pss_one (ps_ret (pe_tup (pa_cons (pv 3) (pa_cons (pe_call (ok_l_draw T) (hr.mono (by decide)) rfl T.g_l_draw T.k_l_draw T.b_l_draw .nil pass0 (pa_cons (pv 0) (pa_cons (pe_ix ix_tup (pv 1) pe_int (fun _ _ => rfl)) pa_nil))) (pa_cons (pe_call (ok_l_draw T) (hr.mono (by decide)) rfl T.g_l_draw T.k_l_draw T.b_l_draw .nil pass0 (pa_cons (pv 0) (pa_cons (pe_ix ix_tup (pv 1) pe_int (fun _ _ => rfl)) pa_nil))) (pa_cons (pe_call (ok_l_draw T) (hr.mono (by decide)) rfl T.g_l_draw T.k_l_draw T.b_l_draw .nil pass0 (pa_cons (pv 0) (pa_cons (pv 2) pa_nil))) pa_nil)))))))), ?_⟩
    refine ⟨_, rfl, _, rfl, z, _, 0, _, rfl, rfl, SqT.of hz, rfl, hd, ca, a, rfl, hA, ⟨by omega, by omega⟩, fun s H1 s0 s1 k1 hA1 => stepN ?_⟩
    have hz1 := k1.tup _ _ hz
    dsimp only
    refine ⟨_, rfl, _, rfl, _, rfl, z, _, 1, _, rfl, rfl, SqT.of hz1, rfl, hd, ca, b, rfl, hA1, ⟨by omega, by omega⟩, fun n H2 n0 n1 k2 hA2 => ?_⟩
    have hz2 := k2.tup _ _ hz1
    refine ⟨_, rfl, _, rfl, z, _, 2, _, rfl, rfl, SqT.of hz2, rfl, hd, ca, c, rfl, hA2, ⟨by omega, by omega⟩, fun kk H3 kk0 kk1 k3 hA3 => ?_⟩
    refine ⟨_, rfl, _, rfl, hd, ca, many, rfl, hA3, ⟨by omega, by omega⟩, fun g H4 g0 g1 k4 hA4 => ?_⟩
    refine nilA ⟨(by show 4 ≤ sizeLine; decide), fun t ht => ?_⟩
    exact k _ s n kk g _ ⟨s0, by omega⟩ ⟨n0, by omega⟩ ⟨kk0, by omega⟩ ⟨g0, by omega⟩ ((((k1.trans k2).trans k3).trans k4).trans (Ke.new ht).ks) (hA4.ke (Ke.new ht)) ⟨t, rfl, upd_same⟩
end
variable (Er : Err P K mg) (htop : (P.main.scope.names.lookup ("super" : Str)).isSome = false)
include T Er htop
theorem ok_l_changed_ : FnOk P w K mg base CX0 9 T.a_l_changed T.d_l_changed P_l_changed (sp_lchanged K T.a_Shop) := by
  refine T.F_l_changed.ok sc_l_changed (fun vs H Q E h => ?_) (fun cdv A outer s H vs Q E hr h => ?_)
  · obtain ⟨hd, ca, p, l, ml, cl, v, o, os, n, rfl, _⟩ := h; rfl
  · obtain ⟨hd, ca, p, l, ml, cl, v, o, os, n, rfl, sh, ls, ne, ⟨z, rfl, hz⟩, d2, hn, los, kD, kN⟩ := h
    obtain ⟨a, b, c, ez, ha, hb, hc⟩ := d2.sz
    rw [ez] at hz
    obtain ⟨ws, hml, pm⟩ := ls.m
    have lws := plen pm
    have n5 := d2.n5
    have n1 := d2.g.m.1
    have clen := d2.clen
    have k3 : Ks (S3 hd p l) H H := .refl
    refine ⟨_, (pss_cons (ps_set (i := 5) sc_l_changed.nd rfl (Or.inl rfl) (pe_call (ok_l_draw T) (hr.mono (by decide)) rfl T.g_l_draw T.k_l_draw T.b_l_draw .nil pass0 (pa_cons (pv 0) (pa_cons (pe_callB call_len (by rfl) T.n_len (by decide +kernel) (pa_cons (pv 3) pa_nil)) pa_nil))))
  (pss_cons (ps_set (i := 6) sc_l_changed.nd rfl (Or.inl rfl) (pe_call (ok_l_draw T) (hr.mono (by decide)) rfl T.g_l_draw T.k_l_draw T.b_l_draw .nil pass0 (pa_cons (pv 0) (pa_cons pe_int pa_nil))))
  (pss_cons (ps_set (i := 7) sc_l_changed.nd rfl (Or.inr rfl) (pe_call (ok_l_draw T) (hr.mono (by decide)) rfl T.g_l_draw T.k_l_draw T.b_l_draw .nil pass0 (pa_cons (pv 0) (pa_cons (pe_ix ix_tup (pv 2) pe_int (fun _ _ => rfl)) pa_nil))))
  (pss_cons (ps_if (PW.pt (pw_and (pt_cmpR op_eq (pv 6) pe_int (nomark _)) (pw_and1 (pt_cmpR op_gt (pe_callB call_len (by rfl) T.n_len (by decide +kernel) (pa_cons (pe_ix ix_list (pv 3) (pv 5) (fun _ _ => rfl)) pa_nil)) pe_int (nomark _))))) (pss_cons (ps_set (i := 8) sc_l_changed.nd rfl (Or.inl rfl) (pe_call (ok_l_draw T) (hr.mono (by decide)) rfl T.g_l_draw T.k_l_draw T.b_l_draw .nil pass0 (pa_cons (pv 0) (pa_cons (pe_callB call_len (by rfl) T.n_len (by decide +kernel) (pa_cons (pe_ix ix_list (pv 3) (pv 5) (fun _ _ => rfl)) pa_nil)) pa_nil))))
  (pss_cons (ps_asg (pe_op op_cat (pe_slice sl_list (pe_ix ix_list (pv 3) (pv 5) (fun _ _ => rfl)) po_none (po_some (pv 8))) (pe_slice sl_list (pe_ix ix_list (pv 3) (pv 5) (fun _ _ => rfl)) (po_some (pe_op op_add (pv 8) pe_int)) po_none)) (pg_sub (pv 3) (pv 5) set_list))
  (pss_one (ps_ret (pe_tup (pa_cons (pe_cmpR op_isN (pe_meth (pv 1) T.c_Shop T.t_Shop_strike (ok_Shop_strike T Er htop) (hr.mono (by decide)) T.b_Shop_strike .nil passL (pa_cons (pv 5) (pa_cons (pv 8) pa_nil))) pe_non (nomark _)) (pa_cons pe_bl pa_nil))))))) pss_nil)
  (pss_cons (ps_if (PW.pt (pw_and (pt_cmpR op_eq (pv 6) pe_int (nomark _)) (pw_and1 (pt_cmpR op_lt (pe_callB call_len (by rfl) T.n_len (by decide +kernel) (pa_cons (pv 3) pa_nil)) pe_int (nomark _))))) (pss_cons (ps_expr (pe_bm PySem.F.plainAttrs_list PySem.F.slot_list_append PySem.F.type_list_append mt_append (pv 3) (pa_cons (pe_lst pa_nil) pa_nil)))
  (pss_cons (ps_expr (pe_bm PySem.F.plainAttrs_list PySem.F.slot_list_append PySem.F.type_list_append mt_append (pv 4) (pa_cons (pe_lst pa_nil) pa_nil)))
  (pss_one (ps_ret (pe_tup (pa_cons (pe_cmpR op_isN (pe_meth0 (pv 1) T.c_Shop T.t_Shop_add (ok_Shop_add T Er htop) (hr.mono (by decide)) T.b_Shop_add .nil passL) pe_non (nomark _)) (pa_cons pe_bl pa_nil))))))) pss_nil)
  (pss_cons (ps_if (PW.pt (pw_and (pt_cmpR op_eq (pv 6) pe_int (nomark _)) (pw_and1 (pt_cmpR op_in_seq (pv 7) (pe_ix ix_list (pv 4) (pv 5) (fun _ _ => rfl)) rfl)))) (pss_cons (ps_asg (pe_lc (own := [("_law_other", 10)]) rfl sc_l_changed.nd (pi_list (pe_ix ix_list (pv 4) (pv 5) (fun _ _ => rfl))) (blkOk_by (own := [("_law_other", 10)]) (N := N_l_changed) (sc := defScope s_l_changed) (by decide +kernel)) (fun _ _ _ _ _ => (pg_name (i := 10) sc_l_changed.nd rfl (Or.inl rfl))) (fun _ _ _ _ _ => pts_one (pt_cmpR op_ne (pv 10) (pv 7) (nomark _))) (fun _ _ _ _ _ => (pv 10))) (pg_sub (pv 4) (pv 5) set_list))
  (pss_one (ps_ret (pe_tup (pa_cons (pe_cmpR op_isN (pe_meth (pv 1) T.c_Shop T.t_Shop_shuts_not (ok_Shop_shuts_not T Er htop) (hr.mono (by decide)) T.b_Shop_shuts_not .nil passL (pa_cons (pv 5) (pa_cons (pv 7) pa_nil))) pe_non (nomark _)) (pa_cons pe_bl pa_nil)))))) pss_nil)
  (pss_cons (ps_if (PW.pt (pw_and (pt_cmpR op_lt (pv 6) pe_int (nomark _)) (pw_and1 (pt_cmpR op_notIn_seq (pv 7) (pe_ix ix_list (pv 4) (pv 5) (fun _ _ => rfl)) rfl)))) (pss_cons (ps_asg (pe_callB (cr_sortedD hr) (by rfl) T.n_sorted (by decide +kernel) (pa_cons (pe_op op_cat (pe_ix ix_list (pv 4) (pv 5) (fun _ _ => rfl)) (pe_lst (pa_cons (pv 7) pa_nil))) pa_nil)) (pg_sub (pv 4) (pv 5) set_list))
  (pss_one (ps_ret (pe_tup (pa_cons (pe_cmpR op_isN (pe_meth (pv 1) T.c_Shop T.t_Shop_shuts (ok_Shop_shuts T Er htop) (hr.mono (by decide)) T.b_Shop_shuts .nil passL (pa_cons (pv 5) (pa_cons (pv 7) pa_nil))) pe_non (nomark _)) (pa_cons pe_bl pa_nil)))))) pss_nil)
  (pss_cons (ps_set (i := 9) sc_l_changed.nd rfl (Or.inl rfl) (pe_call (ok_l_move T) (hr.mono (by decide)) rfl T.g_l_move T.k_l_move T.b_l_move .nil pass0 (pa_cons (pv 0) (pa_cons (pv 2) (pa_cons (pe_callB call_len (by rfl) T.n_len (by decide +kernel) (pa_cons (pv 3) pa_nil)) pa_nil)))))
  (pss_cons (ps_if (pt_cmpR (op_inD (room65 hr)) (pv 9) (pe_ix ix_list (pv 3) (pv 5) (fun _ _ => rfl)) rfl) (pss_one (ps_ret (pe_tup (pa_cons pe_bl (pa_cons pe_bl pa_nil))))) pss_nil)
  (pss_cons (ps_asg (pe_callB (cr_sortedD hr) (by rfl) T.n_sorted (by decide +kernel) (pa_cons (pe_op op_cat (pe_ix ix_list (pv 3) (pv 5) (fun _ _ => rfl)) (pe_lst (pa_cons (pv 9) pa_nil))) pa_nil)) (pg_sub (pv 3) (pv 5) set_list))
  (pss_one (ps_ret (pe_tup (pa_cons (pe_cmpR op_isN (pe_meth (pv 1) T.c_Shop T.t_Shop_put (ok_Shop_put T Er htop) (hr.mono (by decide)) T.b_Shop_put .nil passL (pa_cons (pv 5) (pa_cons (pe_ix ix_tup (pv 9) pe_int (fun _ _ => rfl)) (pa_cons (pe_ix ix_tup (pv 9) pe_int (fun _ _ => rfl)) (pa_cons (pe_ix ix_tup (pv 9) pe_int (fun _ _ => rfl)) (pa_cons (pe_ix ix_tup (pv 9) pe_int (fun _ _ => rfl)) pa_nil)))))) pe_non (nomark _)) (pa_cons pe_bl pa_nil))))))))))))))), ?_⟩
    refine ⟨_, rfl, _, rfl, .ref ml, ws.length, rfl, .inl ⟨_, SqL.of hml, rfl⟩, hd, ca, _, rfl, sh.hA, ⟨by omega, by omega⟩, fun at_ H1 a0 a1 k1 hA1 => stepN ?_⟩
    dsimp only
    refine ⟨_, rfl, hd, ca, 6, rfl, hA1, ⟨by decide, by decide⟩, fun kind H2 kd0 kd1 k2 hA2 => stepN ?_⟩
    have hz2 := (k1.trans k2).tup _ _ hz
    dsimp only
    refine ⟨_, rfl, _, rfl, z, _, 2, _, rfl, rfl, SqT.of hz2, rfl, hd, ca, c, rfl, hA2, ⟨by omega, by omega⟩, fun mark H3 mk0 mk1 k3 hA3 => stepN ?_⟩
    have k03 : Ks (fun a => a = hd) H H3 := (k1.trans k2).trans k3
    have k03s : Ks (S3 hd p l) H H3 := k03.mono fun a z => .inl z
    have sh3 := sh.ks k03 hA3
    have ls3 := ls.ks ne k03s
    have hz3 := k3.tup _ _ hz2
    obtain ⟨n0, rfl⟩ : ∃ n0 : Nat, at_ = (n0 : Int) := ⟨at_.toNat, by omega⟩
    dsimp only
    obtain ⟨ws3, hml3, pm3⟩ := ls3.m
    obtain ⟨us3, hcl3, pc3⟩ := ls3.c
    have lm3 := plen pm3
    have lc3 := plen pc3
    obtain ⟨row, hrow⟩ : ∃ row, o.mv[n0]? = some row := ⟨_, List.getElem?_eq_getElem (by omega)⟩
    obtain ⟨crow, hcrow⟩ : ∃ crow, o.cl[n0]? = some crow := ⟨_, List.getElem?_eq_getElem (by omega)⟩
    obtain ⟨rv, hrv, ra, rws, rfl, hra, prw⟩ := pget pm3 hrow
    obtain ⟨cv, hcv, cra, cws, rfl, hcra, pcw⟩ := pget pc3 hcrow
    have ecw := paired_int (H := Hd (S5 hd p l ml cl) H3) pcw
    subst ecw
    obtain ⟨nra, hra3⟩ := Hd.at hra
    obtain ⟨ncra, hcra3⟩ := Hd.at hcra
    have lrw := plen prw
    have r1 := ls3.rm (by intro e; rw [e] at n1; exact absurd n1 (by decide))
    have r2 := ls3.rc (by intro e; rw [e] at clen; simp at clen; omega)
    have hO3 := S5.old sh3 ls3
    have shp := d2.shp (by omega)
    have rowl := d2.rows row (List.mem_of_getElem? hrow)
    have crowl := d2.clo crow (List.mem_of_getElem? hcrow)
    have done : ∀ H7 o', Ks (S5 hd p l ml cl) H3 H7 → SH K T.a_Shop hd ca p l H7 o' (os ++ [o]) → LS hd p l ml cl H7 o'.mv o'.cl → D2 o' (n + 1) → o'.sz = o.sz → ∀ t, H7 t = none → Q (.ref t) (upd H7 t (.tup [.bl true, .bl true])) := fun H7 o' kk s7 l7 dd es t ht =>
      kD t o' _ upd_same dd es (((k03s.mono fun a z => .inl z).trans kk).trans (Ke.new ht).ks) (s7.ke (Ke.new ht)) (l7.ks ne (Ke.new ht).ks)
    have tru : decide (V.non = V.non) = true := decide_eq_true rfl
    -- a move is struck
    refine seqJI (fun σ' H' => σ' = [some (.ref hd), some (.ref p), some (.ref z), some (.ref ml), some (.ref cl), some (.int n0), some (.int kind), some (.int mark), none, none, none] ∧ H3 = H') (fun nx fin => ?_) ?_
    · refine ⟨_, rfl, rfl, _, rfl, ?_⟩
      by_cases c0 : kind = 0
      · refine ifT (by rw [c0]) ?_
        refine ⟨_, rfl, _, rfl, ml, ws3, (n0 : Int), .ref ra, rfl, rfl, SqL.of hml3, atI_nat hrv rfl, .ref ra, rws.length, rfl, .inl ⟨_, SqL.of hra3, rfl⟩, _, _, rfl, rfl, _, rfl, ?_⟩
        by_cases c1 : row.length = 0
        · refine iteF' (fun h => by have h' : ((rws.length : Nat) : Int) > 0 := of_decide_eq_true h; omega) (stepT (fin _ _ ⟨rfl, rfl⟩))
        · refine iteT' (decide_eq_true (show ((rws.length : Nat) : Int) > 0 by omega)) ?_
          refine ⟨_, rfl, _, rfl, _, rfl, ml, ws3, (n0 : Int), .ref ra, rfl, rfl, SqL.of hml3, atI_nat hrv rfl, .ref ra, rws.length, rfl, .inl ⟨_, SqL.of hra3, rfl⟩, hd, ca, _, rfl, hA3, ⟨by omega, by omega⟩, fun ix H4 i0 i1 k4 hA4 => stepN ?_⟩
          obtain ⟨i, rfl⟩ : ∃ i : Nat, ix = (i : Int) := ⟨ix.toNat, by omega⟩
          have k4s : Ks (S3 hd p l) H3 H4 := k4.mono fun a z => .inl z
          have sh4 := sh3.ks k4 hA4
          have ls4 := ls3.ks ne k4s
          have hml4 := k4s.keep _ _ ne.nm hml3
          have hra4 := k4s.keep _ _ (fun z => nra (.inl z)) hra3
          have hO4 := S5.old sh4 ls4
          have r14 := ls4.rm (by intro e; rw [e] at n1; exact absurd n1 (by decide))
          have r24 := ls4.rc (by intro e; rw [e] at clen; simp at clen; omega)
          dsimp only
          refine ⟨_, rfl, _, rfl, ml, ws3, (n0 : Int), .ref ra, rfl, rfl, SqL.of hml4, atI_nat hrv rfl, _, rfl, _, rfl, ra, rws, rfl, SqL.of hra4, fun q1 hq1 => ?_⟩
          have k5a : Ke H4 (upd H4 q1 (.lst (cutV rws none (some (i : Int))))) := Ke.new hq1
          have h51 : (upd H4 q1 (.lst (cutV rws none (some (i : Int))))) q1 = some (.lst (cutV rws none (some (i : Int)))) := upd_same
          generalize upd H4 q1 (.lst (cutV rws none (some (i : Int)))) = Ha at k5a h51 ⊢
          refine ⟨_, rfl, _, rfl, ml, ws3, (n0 : Int), .ref ra, rfl, rfl, SqL.of (k5a.at hml4), atI_nat hrv rfl, _, rfl, _, _, rfl, rfl, _, rfl, ra, rws, rfl, SqL.of (k5a.at hra4), fun q2 hq2 => ?_⟩
          have ei : (some ((i : Int) + 1) : Option Int) = some ((i + 1 : Nat) : Int) := by congr 1
          have k5b : Ke Ha (upd Ha q2 (.lst (cutV rws (some ((i : Int) + 1)) none))) := Ke.new hq2
          have h52 : (upd Ha q2 (.lst (cutV rws (some ((i : Int) + 1)) none))) q2 = some (.lst (cutV rws (some ((i : Int) + 1)) none)) := upd_same
          generalize upd Ha q2 (.lst (cutV rws (some ((i : Int) + 1)) none)) = Hb at k5b h52 ⊢
          have e1 : cutV rws none (some (i : Int)) = rws.take i := cut_to rws i
          have e2 : cutV rws (some ((i : Int) + 1)) none = rws.drop (i + 1) := by rw [ei]; exact cut_from rws (i + 1)
          rw [e1] at h51
          rw [e2] at h52
          refine ⟨q1, q2, _, _, rfl, rfl, k5b.at h51, h52, by rw [List.length_take, List.length_drop, sizeLine_eq]; omega, fun q3 hq3 => ?_⟩
          have k5c : Ke Hb (upd Hb q3 (.lst (rws.take i ++ rws.drop (i + 1)))) := Ke.new hq3
          have h53 : (upd Hb q3 (.lst (rws.take i ++ rws.drop (i + 1)))) q3 = some (.lst (rws.take i ++ rws.drop (i + 1))) := upd_same
          have hq30 : H4 q3 = none := (k5a.trans k5b).free hq3
          generalize upd Hb q3 (.lst (rws.take i ++ rws.drop (i + 1))) = H5 at k5c h53 ⊢
          have k45 : Ke H4 H5 := (k5a.trans k5b).trans k5c
          have hml5 := k45.at hml4
          have txr : Tx (Hd (S5 hd p l ml cl) H3) (Nw H4 H5) := (Le.ke Hd.le).tx.trans (k4.tx.trans (k45.tx.trans (Nw.tx k45)))
          have hq : LL TI (Nw H4 H5) (.ref q3) (row.take i ++ row.drop (i + 1)) := ⟨q3, _, rfl, Nw.new hq30 h53, papp (ptake i (pimp (fun v x r => TI.stb _ _ v x txr r) prw)) (pdrop (i + 1) (pimp (fun v x r => TI.stb _ _ v x txr r) prw))⟩
          refine ⟨_, rfl, _, rfl, ml, ws3, (n0 : Int), n0, rfl, rfl, hml5, ixN_n (by omega), ?_⟩
          have ls6 := ls4.setM hO4 ne.mc k45 hml4 hq n0
          have k46 : Ks (fun a => a = ml ∨ a = cl) H4 (upd H5 ml (.lst (ws3.set n0 (.ref q3)))) := k45.ks.mut (.inl rfl) (fun xs e => by rw [hml5] at e; cases e)
          generalize upd H5 ml (.lst (ws3.set n0 (.ref q3))) = H6 at ls6 k46 ⊢
          have sh6 := sh4.other ne r14 r24 k46
          obtain ⟨dx6, q6, past6, _, _, _, _, _, _, hp6, _⟩ := sh6.at
          have dd : D2 ⟨o.sz, o.mv.set n0 (row.take i ++ row.drop (i + 1)), o.cl⟩ (n + 1) := (d2.strike (by omega) hrow).mono (Nat.le_succ n)
          refine ⟨_, rfl, p, dx6, _, rfl, hp6, rfl, _, rfl, _, rfl, hd, ca, p, l, o, os, n0, i, row, rfl, sh6, by omega, shp, hrow, by omega, ⟨fun zz hz d H' _ _ => (good_bad dd.g hz).elim, fun g H7 k7 sh7 _ => ⟨rfl, ?_⟩⟩⟩
          rw [tru]
          refine ⟨(by show 2 ≤ sizeLine; decide), fun t ht => ?_⟩
          exact done H7 _ (((k4s.mono fun a z => .inl z).trans (k46.mono fun a z => .inr z)).trans (k7.mono fun a z => .inl z)) sh7 (ls6.ks ne k7) dd rfl t ht
      · exact ifF (fun z => c0 (by injection z)) (stepT (fin _ _ ⟨rfl, rfl⟩))
    · rintro _ _ ⟨rfl, rfl⟩
      -- a standing is added
      refine seqJI (fun σ' H' => σ' = [some (.ref hd), some (.ref p), some (.ref z), some (.ref ml), some (.ref cl), some (.int n0), some (.int kind), some (.int mark), none, none, none] ∧ H3 = H') (fun nx fin => ?_) ?_
      · refine ⟨_, rfl, rfl, _, rfl, ?_⟩
        by_cases c0 : kind = 1
        · refine ifT (by rw [c0]) ?_
          refine ⟨_, rfl, .ref ml, ws3.length, rfl, .inl ⟨_, SqL.of hml3, rfl⟩, _, _, rfl, rfl, _, rfl, ?_⟩
          by_cases c1 : o.mv.length < 5
          · refine iteT' (decide_eq_true (show ((ws3.length : Nat) : Int) < 5 by omega)) ?_
            refine ⟨_, rfl, .inl ⟨rfl, _, SqL.of hml3⟩, by decide, fun q1 hq1 => ?_⟩
            have k4 : Ke H3 (upd H3 q1 (.lst [])) := Ke.new hq1
            have h41 : (upd H3 q1 (.lst [])) q1 = some (.lst []) := upd_same
            generalize upd H3 q1 (.lst []) = H4 at k4 h41 ⊢
            refine ⟨ml, ws3, .ref q1, rfl, rfl, k4.at hml3, by rw [sizeLine_eq]; omega, ?_⟩
            have ls5 := ls3.appM hO3 ne.mc k4 hml3 (⟨q1, [], rfl, Nw.new hq1 h41, .nil⟩ : LL TI (Nw H3 H4) (.ref q1) [])
            have k35 : Ks (fun a => a = ml ∨ a = cl) H3 (upd H4 ml (.lst (ws3 ++ [.ref q1]))) := k4.ks.mut (.inl rfl) (fun xs e => by rw [k4.at hml3] at e; cases e)
            have hcl5 : (upd H4 ml (.lst (ws3 ++ [.ref q1]))) cl = some (.lst us3) := by rw [upd_ne ne.mc.symm]; exact k4.at hcl3
            generalize upd H4 ml (.lst (ws3 ++ [.ref q1])) = H5 at ls5 k35 hcl5 ⊢
            have sh5 := sh3.other ne r1 r2 k35
            have hO5 := S5.old sh5 ls5
            refine ⟨_, rfl, .inl ⟨rfl, _, SqL.of hcl5⟩, by decide, fun q2 hq2 => ?_⟩
            have k6 : Ke H5 (upd H5 q2 (.lst [])) := Ke.new hq2
            have h62 : (upd H5 q2 (.lst [])) q2 = some (.lst []) := upd_same
            generalize upd H5 q2 (.lst []) = H6 at k6 h62 ⊢
            refine ⟨cl, us3, .ref q2, rfl, rfl, k6.at hcl5, by rw [sizeLine_eq]; omega, ?_⟩
            have ls7 := ls5.appC hO5 ne.mc k6 hcl5 (⟨q2, [], rfl, Nw.new hq2 h62, .nil⟩ : LL II (Nw H5 H6) (.ref q2) [])
            have k57 : Ks (fun a => a = ml ∨ a = cl) H5 (upd H6 cl (.lst (us3 ++ [.ref q2]))) := k6.ks.mut (.inr rfl) (fun xs e => by rw [k6.at hcl5] at e; cases e)
            generalize upd H6 cl (.lst (us3 ++ [.ref q2])) = H7 at ls7 k57 ⊢
            have sh7 := sh5.other ne (ls5.rm (by simp)) (ls5.rc (by intro e; rw [e] at clen; simp at clen; omega)) k57
            obtain ⟨dx7, q7, past7, _, _, _, _, _, _, hp7, _⟩ := sh7.at
            have dd : D2 ⟨o.sz, o.mv ++ [[]], o.cl ++ [[]]⟩ (n + 1) := (d2.add c1).mono (Nat.le_succ n)
            refine ⟨_, rfl, p, dx7, _, rfl, hp7, rfl, nilA ⟨hd, ca, p, l, o, os, rfl, sh7, by omega, shp, ⟨fun zz hz d H' _ _ => (good_bad dd.g hz).elim, fun g H8 k8 sh8 _ => ⟨rfl, ?_⟩⟩⟩⟩
            rw [tru]
            refine ⟨(by show 2 ≤ sizeLine; decide), fun t ht => ?_⟩
            exact done H8 _ (((k35.mono fun a z => .inr z).trans (k57.mono fun a z => .inr z)).trans (k8.mono fun a z => .inl z)) sh8 (ls7.ks ne k8) dd rfl t ht
          · refine iteF' (fun h => by have h' : ((ws3.length : Nat) : Int) < 5 := of_decide_eq_true h; omega) (stepT (fin _ _ ⟨rfl, rfl⟩))
        · exact ifF (fun z => c0 (by injection z)) (stepT (fin _ _ ⟨rfl, rfl⟩))
      · rintro _ _ ⟨rfl, rfl⟩
        -- a closing is taken out
        refine seqJI (fun σ' H' => σ' = [some (.ref hd), some (.ref p), some (.ref z), some (.ref ml), some (.ref cl), some (.int n0), some (.int kind), some (.int mark), none, none, none] ∧ H3 = H') (fun nx fin => ?_) ?_
        · refine ⟨_, rfl, rfl, _, rfl, ?_⟩
          by_cases c0 : kind = 2
          · refine ifT (by rw [c0]) ?_
            refine ⟨_, rfl, _, rfl, _, rfl, cl, us3, (n0 : Int), .ref cra, rfl, rfl, SqL.of hcl3, atI_nat hcv rfl, cra, _, rfl, .inl (SqL.of hcra3), rfl, flat_int _, _, rfl, ?_⟩
            rw [inV_int]
            by_cases c1 : mark ∈ crow
            · refine iteT' (by simp [c1]) ?_
              refine ⟨_, rfl, _, rfl, cl, us3, (n0 : Int), .ref cra, rfl, rfl, SqL.of hcl3, atI_nat hcv rfl, cra, rfl, ⟨_, SqL.of hcra3⟩, fun D hD => lc_W (R := II) walk_list (II.stb.sto) crow (fun x => decide (x ≠ mark)) id hD (by rw [sizeLine_eq]; omega) (by simp) (fun H4 k4 => SqL.of (k4.at hcra3)) (fun a H4 v H5 k4 y => ?_) ?_ ?_⟩
              · obtain ⟨rfl, e⟩ := y
                rw [List.getElem?_map] at e
                cases e3 : crow[a]? with
                | none => rw [e3] at e; cases e
                | some m =>
                  rw [e3] at e
                  exact ⟨rfl, m, rfl, (Option.some.inj e).symm⟩
              · rintro v m H4 hm' rfl k4 nD Z Z' z z'
                refine ⟨rfl, _, rfl, _, rfl, rfl, _, rfl, ?_⟩
                by_cases e : m = mark
                · exact ifNT (by rw [e]) (z' (by simp [e]) _ .refl)
                · exact ifNF (fun q => e (by injection q)) ⟨_, rfl, z (by simp [e]) _ _ .refl rfl⟩
              · intro H5 k5 hl
                rw [List.map_id] at hl
                have hcl5 := k5.at hcl3
                refine ⟨_, rfl, _, rfl, cl, us3, (n0 : Int), n0, rfl, rfl, hcl5, ixN_n (by omega), ?_⟩
                have ls6 := ls3.setC hO3 ne.mc k5 hcl3 hl n0
                have k36 : Ks (fun a => a = ml ∨ a = cl) H3 (upd H5 cl (.lst (us3.set n0 (.ref D)))) := k5.ks.mut (.inr rfl) (fun xs e => by rw [hcl5] at e; cases e)
                generalize upd H5 cl (.lst (us3.set n0 (.ref D))) = H6 at ls6 k36 ⊢
                have sh6 := sh3.other ne r1 r2 k36
                obtain ⟨dx6, q6, past6, _, _, _, _, _, _, hp6, _⟩ := sh6.at
                have dd : D2 ⟨o.sz, o.mv, o.cl.set n0 (crow.filter fun x => decide (x ≠ mark))⟩ (n + 1) := (d2.shutsN hcrow).mono (Nat.le_succ n)
                refine ⟨_, rfl, p, dx6, _, rfl, hp6, rfl, _, rfl, _, rfl, hd, ca, p, l, o, os, n0, mark, a, b, c, crow, rfl, sh6, by omega, shp, ez, hcrow, c1, ⟨by omega, by omega⟩, ⟨fun zz hz d H' _ _ => (good_bad dd.g hz).elim, fun g H7 k7 sh7 _ => ⟨rfl, ?_⟩⟩⟩
                rw [tru]
                refine ⟨(by show 2 ≤ sizeLine; decide), fun t ht => ?_⟩
                exact done H7 _ ((k36.mono fun a z => .inr z).trans (k7.mono fun a z => .inl z)) sh7 (ls6.ks ne k7) dd rfl t ht
            · exact iteF' (by simp [c1]) (stepT (fin _ _ ⟨rfl, rfl⟩))
          · exact ifF (fun z => c0 (by injection z)) (stepT (fin _ _ ⟨rfl, rfl⟩))
        · rintro _ _ ⟨rfl, rfl⟩
          -- a closing is let
          refine seqJI (fun σ' H' => σ' = [some (.ref hd), some (.ref p), some (.ref z), some (.ref ml), some (.ref cl), some (.int n0), some (.int kind), some (.int mark), none, none, none] ∧ H3 = H') (fun nx fin => ?_) ?_
          · refine ⟨_, rfl, _, _, rfl, rfl, _, rfl, ?_⟩
            by_cases c0 : kind < 4
            · refine iteT' (decide_eq_true c0) ?_
              refine ⟨_, rfl, _, rfl, _, rfl, cl, us3, (n0 : Int), .ref cra, rfl, rfl, SqL.of hcl3, atI_nat hcv rfl, cra, _, rfl, .inl (SqL.of hcra3), rfl, flat_int _, _, rfl, ?_⟩
              rw [inV_int]
              by_cases c1 : mark ∈ crow
              · exact iteF' (by simp [c1]) (stepT (fin _ _ ⟨rfl, rfl⟩))
              · refine iteT' (by simp [c1]) ?_
                refine ⟨_, rfl, _, rfl, cl, us3, (n0 : Int), .ref cra, rfl, rfl, SqL.of hcl3, atI_nat hcv rfl, _, rfl, (by show 1 ≤ sizeLine; decide), fun q1 hq1 => ?_⟩
                have k4 : Ke H3 (upd H3 q1 (.lst [.int mark])) := Ke.new hq1
                have h41 : (upd H3 q1 (.lst [.int mark])) q1 = some (.lst [.int mark]) := upd_same
                generalize upd H3 q1 (.lst [.int mark]) = H4 at k4 h41 ⊢
                refine ⟨cra, q1, _, _, rfl, rfl, k4.at hcra3, h41, by rw [List.length_map, sizeLine_eq]; simp; omega, fun q2 hq2 => ?_⟩
                have k5 : Ke H4 (upd H4 q2 (.lst (crow.map V.int ++ [.int mark]))) := Ke.new hq2
                have h52 : (upd H4 q2 (.lst (crow.map V.int ++ [.int mark]))) q2 = some (.lst (crow.map V.int ++ [.int mark])) := upd_same
                generalize upd H4 q2 (.lst (crow.map V.int ++ [.int mark])) = H5 at k5 h52 ⊢
                refine nilA ⟨q2, _, Int, II H5, PyData.int, crow ++ [mark], rfl, SqL.of h52, papp (pmap_int crow) (.cons rfl .nil), fun v b r => II.enc K H5 v b r, ok_I, fun q3 out hq3 po => ?_⟩
                have k6 : Ke H5 (upd H5 q3 (.lst out)) := Ke.new hq3
                have h63 : (upd H5 q3 (.lst out)) q3 = some (.lst out) := upd_same
                have hq30 : H3 q3 = none := (k4.trans k5).free hq3
                generalize upd H5 q3 (.lst out) = H6 at k6 h63 ⊢
                have k36 := (k4.trans k5).trans k6
                have hcl6 := k36.at hcl3
                have hq : LL II (Nw H3 H6) (.ref q3) (sortI (crow ++ [mark])) := ⟨q3, out, rfl, Nw.new hq30 h63, pimp (fun v x r => r) po⟩
                refine ⟨_, rfl, _, rfl, cl, us3, (n0 : Int), n0, rfl, rfl, hcl6, ixN_n (by omega), ?_⟩
                have ls7 := ls3.setC hO3 ne.mc k36 hcl3 hq n0
                have k37 : Ks (fun a => a = ml ∨ a = cl) H3 (upd H6 cl (.lst (us3.set n0 (.ref q3)))) := k36.ks.mut (.inr rfl) (fun xs e => by rw [hcl6] at e; cases e)
                generalize upd H6 cl (.lst (us3.set n0 (.ref q3))) = H7 at ls7 k37 ⊢
                have sh7 := sh3.other ne r1 r2 k37
                obtain ⟨dx7, q7, past7, _, _, _, _, _, _, hp7, _⟩ := sh7.at
                have dd : D2 ⟨o.sz, o.mv, o.cl.set n0 (sortI (crow ++ [mark]))⟩ (n + 1) := (d2.shuts hcrow c1 ⟨a, b, c, ez, by omega, by omega⟩).mono (Nat.le_succ n)
                refine ⟨_, rfl, p, dx7, _, rfl, hp7, rfl, _, rfl, _, rfl, hd, ca, p, l, o, os, .int n0, .int mark, a, b, c, true, true, rfl, sh7, by omega, shp, ez, .inl ⟨n0, rfl, (decide_eq_true (by omega)).symm⟩, .inl ⟨mark, rfl, (decide_eq_true (by omega)).symm⟩, (fun e => by cases e), (fun _ e => by cases e), fun n' k' row' e1 e2 hr' _ => ?_⟩
                have e1 : n0 = n' := by injection e1 with e1; omega
                have e2 : mark = k' := by injection e2
                subst e1 e2
                rw [hcrow] at hr'
                cases hr'
                refine ⟨fun zz hz d H' _ _ => (good_bad dd.g hz).elim, fun g H8 k8 sh8 _ => ⟨rfl, ?_⟩⟩
                rw [tru]
                refine ⟨(by show 2 ≤ sizeLine; decide), fun t ht => ?_⟩
                exact done H8 _ ((k37.mono fun a z => .inr z).trans (k8.mono fun a z => .inl z)) sh8 (ls7.ks ne k8) dd rfl t ht
            · exact iteF' (by simp [c0]) (stepT (fin _ _ ⟨rfl, rfl⟩))
          · rintro _ _ ⟨rfl, rfl⟩
            -- a move is put in
            refine ⟨_, rfl, _, rfl, _, rfl, .ref ml, ws3.length, rfl, .inl ⟨_, SqL.of hml3, rfl⟩, hd, ca, .ref z, a, b, c, _, rfl, hA3, ⟨z, rfl, hz3⟩, ha, hb, hc, ⟨by omega, by omega⟩, fun mvv ms mn mk mg_ H4 sb nb kb gb k4 hA4 hmv => stepN ?_⟩
            obtain ⟨ma, rfl, hma⟩ := hmv
            have k4s : Ks (S3 hd p l) H3 H4 := k4.mono fun a z => .inl z
            have sh4 := sh3.ks k4 hA4
            have ls4 := ls3.ks ne k4s
            have hml4 := k4s.keep _ _ ne.nm hml3
            have hra4 := k4s.keep _ _ (fun z => nra (.inl z)) hra3
            have hO4 := S5.old sh4 ls4
            have r14 := ls4.rm (by intro e; rw [e] at n1; exact absurd n1 (by decide))
            have r24 := ls4.rc (by intro e; rw [e] at clen; simp at clen; omega)
            have prw4 : Paired (TI H4) rws row := pimp (fun v x r => TI.stb _ _ v x ((Le.ke Hd.le).tx.trans k4.tx) r) prw
            dsimp only
            refine ⟨_, rfl, _, rfl, _, rfl, ml, ws3, (n0 : Int), .ref ra, rfl, rfl, SqL.of hml4, atI_nat hrv rfl, tI [ms, mn, mk, mg_], row.map tI, TI.enc K _ _ _ ⟨ma, rfl, hma⟩, LL.enc TI.enc K H4 _ _ ⟨ra, rws, rfl, hra4, prw4⟩, shaped_tI _, shaped_LI _, _, rfl, ?_⟩
            rw [any_mem_tI]
            by_cases c1 : [ms, mn, mk, mg_] ∈ row
            · refine iteT' (decide_eq_true c1) ⟨(by show 2 ≤ sizeLine; decide), fun t ht => ?_⟩
              exact kN t _ upd_same (((k03s.mono fun a z => .inl z).trans (k4s.mono fun a z => .inl z)).trans (Ke.new ht).ks) (sh4.ke (Ke.new ht)) (ls4.ks ne (Ke.new ht).ks)
            · refine iteF' (by simp [c1]) (stepT ?_)
              refine ⟨_, rfl, _, rfl, ml, ws3, (n0 : Int), .ref ra, rfl, rfl, SqL.of hml4, atI_nat hrv rfl, _, rfl, (by show 1 ≤ sizeLine; decide), fun q1 hq1 => ?_⟩
              have k5 : Ke H4 (upd H4 q1 (.lst [.ref ma])) := Ke.new hq1
              have h51 : (upd H4 q1 (.lst [.ref ma])) q1 = some (.lst [.ref ma]) := upd_same
              generalize upd H4 q1 (.lst [.ref ma]) = H5 at k5 h51 ⊢
              refine ⟨ra, q1, _, _, rfl, rfl, k5.at hra4, h51, by rw [sizeLine_eq]; simp; omega, fun q2 hq2 => ?_⟩
              have k6 : Ke H5 (upd H5 q2 (.lst (rws ++ [.ref ma]))) := Ke.new hq2
              have h62 : (upd H5 q2 (.lst (rws ++ [.ref ma]))) q2 = some (.lst (rws ++ [.ref ma])) := upd_same
              generalize upd H5 q2 (.lst (rws ++ [.ref ma])) = H6 at k6 h62 ⊢
              have k46 := k5.trans k6
              have hma6 := k46.at hma
              refine nilA ⟨q2, _, List Int, TI H6, tI, row ++ [[ms, mn, mk, mg_]], rfl, SqL.of h62, papp (pimp (fun v x r => TI.stb _ _ v x k46.tx r) prw4) (.cons ⟨ma, rfl, hma6⟩ .nil), fun v b r => TI.enc K H6 v b r, ok_T (fun m hm => ?_), fun q3 out hq3 po => ?_⟩
              · rcases List.mem_append.mp hm with y | y
                · exact (shp.rw_ row (List.mem_of_getElem? hrow)).2 m y
                · rw [List.mem_singleton.mp y]; simp
              · have po : Paired (TI H6) out (sortT (row ++ [[ms, mn, mk, mg_]])) := po
                have k7 : Ke H6 (upd H6 q3 (.lst out)) := Ke.new hq3
                have h73 : (upd H6 q3 (.lst out)) q3 = some (.lst out) := upd_same
                have hq30 : H4 q3 = none := k46.free hq3
                generalize upd H6 q3 (.lst out) = H7 at k7 h73 ⊢
                have k47 := k46.trans k7
                have hml7 := k47.at hml4
                have hq : LL TI (Nw H4 H7) (.ref q3) (sortT (row ++ [[ms, mn, mk, mg_]])) := ⟨q3, out, rfl, Nw.new hq30 h73, pimp (fun v x r => TI.stb _ _ v x (k7.tx.trans (Nw.tx k47)) r) po⟩
                refine ⟨_, rfl, _, rfl, ml, ws3, (n0 : Int), n0, rfl, rfl, hml7, ixN_n (by omega), ?_⟩
                have ls8 := ls4.setM hO4 ne.mc k47 hml4 hq n0
                have k48 : Ks (fun a => a = ml ∨ a = cl) H4 (upd H7 ml (.lst (ws3.set n0 (.ref q3)))) := k47.ks.mut (.inl rfl) (fun xs e => by rw [hml7] at e; cases e)
                generalize upd H7 ml (.lst (ws3.set n0 (.ref q3))) = H8 at ls8 k48 ⊢
                have sh8 := sh4.other ne r14 r24 k48
                obtain ⟨dx8, q8, past8, _, _, _, _, _, _, hp8, _⟩ := sh8.at
                have hma8 := k48.tup _ _ hma
                have mok : MoveOk o.sz o.mv.length [ms, mn, mk, mg_] := ⟨a, b, c, ms, mn, mk, mg_, ez, rfl, sb, nb, kb, gb.1, by omega⟩
                have dd : D2 ⟨o.sz, o.mv.set n0 (sortT (row ++ [[ms, mn, mk, mg_]])), o.cl⟩ (n + 1) := d2.put (by omega) hrow c1 mok
                refine ⟨_, rfl, p, dx8, _, rfl, hp8, rfl, _, rfl, _, rfl, ma, _, 0, _, rfl, rfl, SqT.of hma8, rfl, _, rfl, ma, _, 1, _, rfl, rfl, SqT.of hma8, rfl, _, rfl, ma, _, 2, _, rfl, rfl, SqT.of hma8, rfl, _, rfl, ma, _, 3, _, rfl, rfl, SqT.of hma8, rfl, ?_⟩
                refine nilA ⟨hd, ca, p, l, o, os, .int n0, .int ms, .int mn, .int mk, .int mg_, a, b, c, true, true, true, true, true, rfl, sh8, by omega, shp, ez, .inl ⟨n0, rfl, (decide_eq_true (by omega)).symm⟩, .inl ⟨ms, rfl, (decide_eq_true sb).symm⟩, .inl ⟨mn, rfl, (decide_eq_true nb).symm⟩, .inl ⟨mk, rfl, (decide_eq_true kb).symm⟩, .inl ⟨mg_, rfl, (decide_eq_true (by omega)).symm⟩, (fun e => by cases e), (fun _ e => by cases e), (fun _ _ e => by cases e), fun n' x' y' z' g' row' e1 e2 e3 e4 e5 hr' _ _ _ _ => ?_⟩
                have e1 : n0 = n' := by injection e1 with e1; omega
                have e2 : ms = x' := by injection e2
                have e3 : mn = y' := by injection e3
                have e4 : mk = z' := by injection e4
                have e5 : mg_ = g' := by injection e5
                subst e1 e2 e3 e4 e5
                rw [hrow] at hr'
                cases hr'
                refine ⟨fun zz hz d H' _ _ => (good_bad dd.g hz).elim, fun g H9 k9 sh9 _ => ⟨rfl, ?_⟩⟩
                rw [tru]
                refine ⟨(by show 2 ≤ sizeLine; decide), fun t ht => ?_⟩
                exact done H9 _ (((k4s.mono fun a z => .inl z).trans (k48.mono fun a z => .inr z)).trans (k9.mono fun a z => .inl z)) sh9 (ls8.ks ne k9) dd rfl t ht
end
end Fd
set_option Elab.async false
set_option linter.all false
set_option maxRecDepth 100000
set_option maxHeartbeats 8000000
namespace Fd
open PySem PySem.Spec PyProof.Rows L2 PySem.W
theorem repr2 {K : Frag} {H : Hp} {l : Addr} {vm vc : V} {o : Ofc} {D W : Nat} {Q : VK} (hl : H l = some (.lst [vm, vc])) (hm : MV H vm o.mv) (hc : CL H vc o.cl) (ro : RO D W (enc2 o)) (hD : D ≤ 60) (hW : W ≤ 2 ^ 20) (q : Q (.str (enc2 o).shown) H) : rReprD K [.ref l] H Q :=
  ⟨l, enc2 o, rfl, .lst (SqL.of hl) (.cons (MV.enc K H _ _ hm) (.cons (CL.enc K H _ _ hc) .nil)), ro.sh, ro.nd, Nat.le_trans ro.dp hD, ro.fits hW, q⟩
def sp_lsame (K : Frag) (CS : Addr) : Sp := fun xs H Q _ => ∃ hd ca p l ml cl v o os n, xs = [.ref p, v, .ref ml, .ref cl] ∧ SH K CS hd ca p l H o os ∧ LS hd p l ml cl H o.mv o.cl ∧ TI H v o.sz ∧ D2 o n ∧ n ≤ 30 ∧ ∀ H', Ke H H' → Q (.bl true) H'
section
variable {P : Program} {w : World} {K : PySem.W.Frag} {mg : Str → Option Value} {base : Heap} (T : Txt K mg) (Er : Err P K mg) (Eq : ErrQ Er) (htop : (P.main.scope.names.lookup ("super" : Str)).isSome = false)
include T Er Eq htop
theorem ok_l_same_ : FnG P w K mg base 7 T.a_l_same T.d_l_same P_l_same (sp_lsame K T.a_Shop) := by
  have eO : Er.a_Office = T.a_Office := by
    have := Er.g_Office.symm.trans T.g_Office
    injection this with this
    injection this
  refine fng_of T.F_l_same sc_l_same (fun vs H Q E h => ?_) (fun cdv A outer s H vs Q E hgd hr h => ?_)
  · obtain ⟨hd, ca, p, l, ml, cl, v, o, os, n, rfl, _⟩ := h; rfl
  · obtain ⟨hd, ca, p, l, ml, cl, v, o, os, n, rfl, sh, ls, hv, d2, hn, k⟩ := h
    obtain ⟨ws, hml, pm⟩ := ls.m
    obtain ⟨us, hcl, pc⟩ := ls.c
    have lm := plen pm
    have lc := plen pc
    have n5 := d2.n5
    have clen := d2.clen
    have ro := d2.ro (by omega)
    obtain ⟨dx, q, past, C, dxo, vs, vm, vc, vk, hp, hl, lp, oc, of, hq, hzz, hmm, hcc, tx⟩ := sh.at
    have eC : C = T.a_Office := oc.w.trans T.oc.w.symm
    subst eC
    have ofH : OfAt T.a_Office H q o := of.ke (Le.ke Hd.le)
    refine ⟨_, (pss_cons (ps_set (i := 4) sc_l_same.nd rfl (Or.inl rfl) (pe_meth0 (pv 0) T.c_Shop T.t_Shop_office (ok_Shop_office T) (hr.mono (by decide)) T.b_Shop_office .nil pass0))
  (pss_cons (ps_set (i := 5) sc_l_same.nd rfl (Or.inl rfl) (pe_make T.m_Office (ok_Office_init T Er htop) (hr.mono (by decide)) rfl T.g_Office T.b_Office_init .nil passL (pa_cons (pv 1) (pa_cons (pe_callTy call_tuple_of (by rfl) T.n_tuple (by decide +kernel) (pa_cons (pe_lc (own := [("_law_row", 6)]) rfl sc_l_same.nd (pi_list (pv 2)) (blkOk_by (own := [("_law_row", 6)]) (N := N_l_same) (sc := defScope s_l_same) (by decide +kernel)) (fun _ _ _ _ _ => (pg_name (i := 6) sc_l_same.nd rfl (Or.inl rfl))) (fun _ _ _ _ _ => pts_nil) (fun _ _ _ _ _ => (pe_callTy (tuple_ofK K rfl) (by rfl) T.n_tuple (by decide +kernel) (pa_cons (pv 6) pa_nil)))) pa_nil)) (pa_cons (pe_callTy call_tuple_of (by rfl) T.n_tuple (by decide +kernel) (pa_cons (pe_lc (own := [("_law_row", 6)]) rfl sc_l_same.nd (pi_list (pv 3)) (blkOk_by (own := [("_law_row", 6)]) (N := N_l_same) (sc := defScope s_l_same) (by decide +kernel)) (fun _ _ _ _ _ => (pg_name (i := 6) sc_l_same.nd rfl (Or.inl rfl))) (fun _ _ _ _ _ => pts_nil) (fun _ _ _ _ _ => (pe_callTy (tuple_ofK K rfl) (by rfl) T.n_tuple (by decide +kernel) (pa_cons (pv 6) pa_nil)))) pa_nil)) pa_nil)))))
  (pss_one (ps_ret (pe_and (pe_cmpR (op_eqG (rcG_ins (ok_Office_eq T) T.t_Office___eq__.at_ T.t_Office___eq__.fn T.b_Office_eq pass0) (hr.mono (by decide))) (pv 4) (pv 5) (nomark _)) (pe_one (pe_cmpR op_eq (pe_callB (cr_reprD hr hgd) (by rfl) T.n_repr (by decide +kernel) (pa_cons (pe_lst (pa_cons (pe_fld (pv 4) rfl) (pa_cons (pe_fld (pv 4) rfl) pa_nil))) pa_nil)) (pe_callB (cr_reprD hr hgd) (by rfl) T.n_repr (by decide +kernel) (pa_cons (pe_lst (pa_cons (pe_fld (pv 5) rfl) (pa_cons (pe_fld (pv 5) rfl) pa_nil))) pa_nil)) (nomark _)))))))), ?_⟩
    refine ⟨_, rfl, p, dx, _, rfl, hp, rfl, nilA ⟨hd, ca, p, l, o, os, rfl, sh, fun dx2 q2 hp2 _ => stepN ?_⟩⟩
    have e2 : q = q2 := by
      rw [hp] at hp2
      injection hp2 with hp2
      injection hp2 with _ _ e
      have z := congrArg (List.lookup ("kept_now" : Str)) e
      rw [shF_n, shF_n] at z
      injection z with z
      injection z
    subst e2
    dsimp only
    refine ⟨_, rfl, _, rfl, ml, rfl, ⟨_, SqL.of hml⟩, fun D hD => lc_W (R := LL TI) walk_list ((TT.stb TI.stb).sto : Sto (TT TI)) o.mv (fun _ => true) id hD (by rw [sizeLine_eq]; omega) lm.symm (fun H4 k4 => SqL.of (k4.at hml)) (fun a H4 v H5 k4 y => ?_) ?_ ?_⟩
    · obtain ⟨rfl, e⟩ := y
      obtain ⟨r, e2, rr⟩ := pgetL pm e
      exact ⟨rfl, r, e2, LL.sto TI.stb.sto _ _ _ _ ((Le.ke Hd.le).trans k4) rr⟩
    · rintro v r H4 hr' ⟨ra, rws, rfl, hra, prw⟩ k4 nD Z Z' z z'
      refine ⟨rfl, yesT ?_⟩
      refine ⟨_, rfl, ra, rws, rfl, .inl ⟨SqL.of hra, fun t ht => ?_⟩⟩
      have kt : Ke H4 (upd H4 t (.tup rws)) := Ke.new ht
      exact z rfl _ _ kt ⟨t, rws, rfl, (Nw.tx kt).tup _ _ upd_same, pimp (fun v x r => TI.stb _ _ v x (kt.tx.trans (Nw.tx kt)) r) prw⟩
    · intro H1 k1 hl1
      rw [List.map_id, List.filter_eq_self.mpr (fun _ _ => rfl)] at hl1
      obtain ⟨D', ws1, eD, hD1, pw1⟩ := hl1
      cases eD
      obtain ⟨_, hD1⟩ := Hd.at hD1
      refine ⟨D, ws1, rfl, .inl ⟨SqL.of hD1, fun t1 ht1 => ?_⟩⟩
      have k2 : Ke H1 (upd H1 t1 (.tup ws1)) := Ke.new ht1
      have hm2 : MV (upd H1 t1 (.tup ws1)) (.ref t1) o.mv := ⟨t1, ws1, rfl, upd_same, pimp (fun v x r => TT.stb TI.stb _ _ v x ((Le.ke Nw.le).tx.trans k2.tx) r) pw1⟩
      generalize upd H1 t1 (.tup ws1) = H2 at k2 hm2 ⊢
      have k02 := k1.trans k2
      refine ⟨_, rfl, cl, rfl, ⟨_, SqL.of (k02.at hcl)⟩, fun D2' hD2 => lc_W (R := LL II) walk_list (TI.stb.sto) o.cl (fun _ => true) id hD2 (by rw [sizeLine_eq]; omega) lc.symm (fun H4 k4 => SqL.of (k4.at (k02.at hcl))) (fun a H4 v H5 k4 y => ?_) ?_ ?_⟩
      · obtain ⟨rfl, e⟩ := y
        obtain ⟨r, e2, rr⟩ := pgetL pc e
        exact ⟨rfl, r, e2, LL.sto II.stb.sto _ _ _ _ (((Le.ke Hd.le).trans k02).trans k4) rr⟩
      · rintro v r H4 hr' ⟨ra, rws, rfl, hra, prw⟩ k4 nD Z Z' z z'
        have er := paired_int (H := H4) prw
        subst er
        refine ⟨rfl, yesT ?_⟩
        refine ⟨_, rfl, ra, _, rfl, .inl ⟨SqL.of hra, fun t ht => ?_⟩⟩
        have kt : Ke H4 (upd H4 t (.tup (r.map V.int))) := Ke.new ht
        exact z rfl _ _ kt ⟨t, rfl, (Nw.tx kt).tup _ _ upd_same⟩
      · intro H3 k3 hl3
        rw [List.map_id, List.filter_eq_self.mpr (fun _ _ => rfl)] at hl3
        obtain ⟨D3, ws3, eD, hD3, pw3⟩ := hl3
        cases eD
        obtain ⟨_, hD3⟩ := Hd.at hD3
        refine ⟨D2', ws3, rfl, .inl ⟨SqL.of hD3, fun t3 ht3 => ?_⟩⟩
        have k4 : Ke H3 (upd H3 t3 (.tup ws3)) := Ke.new ht3
        have hc4 : CL (upd H3 t3 (.tup ws3)) (.ref t3) o.cl := ⟨t3, ws3, rfl, upd_same, pimp (fun v x r => TI.stb _ _ v x ((Le.ke Nw.le).tx.trans k4.tx) r) pw3⟩
        generalize upd H3 t3 (.tup ws3) = H4 at k4 hc4 ⊢
        have k24 := k3.trans k4
        have k04 := k02.trans k24
        refine nilA fun x dxx hx hdx ndx => ?_
        have kA : Ke H4 (upd (upd H4 dxx (.own x)) x (.ins T.a_Office dxx [])) := (Ke.new hdx).trans (Ke.new (by rw [upd_ne ndx.symm]; exact hx))
        have hxA : (upd (upd H4 dxx (.own x)) x (.ins T.a_Office dxx [])) x = some (.ins T.a_Office dxx []) := upd_same
        generalize upd (upd H4 dxx (.own x)) x (.ins T.a_Office dxx []) = HA at kA hxA ⊢
        have k0A := k04.trans kA
        refine ⟨No, x, dxx, v, .ref t1, .ref t3, o.sz, o.mv, o.cl, rfl, hxA, (fun z => z), (fun a z => z.elim), by rw [Hd.no]; exact TI.stb _ _ _ _ k0A.tx hv, by rw [Hd.no]; exact TT.stb (TT.stb TI.stb) _ _ _ _ (k24.trans kA).tx hm2, by rw [Hd.no]; exact TT.stb TI.stb _ _ _ _ kA.tx hc4, d2.g.s.1, by omega, (good_sh d2.g).2.2, fun zz hz d H' _ _ => (good_bad d2.g hz).elim, fun g H5 k5 of5 => ⟨rfl, ?_⟩⟩
        rw [Hd.no] at of5
        have k05 : Ke H H5 := Ks.comp k0A.ks k5 (fun _ z => z) (fun y z => .inr (by rw [z]; exact k04.free hx))
        refine stepN ?_
        have of5q := ofH.ke k05
        obtain ⟨dxq, vs1, vm1, vc1, lk1, ds1, hq5, _, hmq, hcq, _, _⟩ := of5q.ex
        obtain ⟨dx5, vs2, vm2, vc2, lk2, ds2, hx5, _, hmx, hcx, _, _⟩ := of5.ex
        have o1 := Eq.o1
        have o4 := Eq.o4
        have o7 := Eq.o7
        rw [eO] at o1 o4 o7
        dsimp only
        refine ⟨_, rfl, _, rfl, ⟨q, x, dxq, dx5, _, _, rfl, rfl, hq5, hx5, o, T.oc, of5q, of5, .ref T.a_Office, fun dx fs e => .base (.ins e T.c_Office o1 Eq.o2 Eq.o3 o4), o7⟩, fun H6 ext => ⟨true, rfl, iteT' rfl ?_⟩⟩
        have k6 : Ke H5 H6 := Ke.of ext
        have hq6 := k6.at hq5
        have hx6 := k6.at hx5
        refine ⟨_, rfl, q, T.a_Office, dxq, _, _, rfl, hq6, T.oc.c, T.oc.n2, offF_m _ _ _ _, _, rfl, q, T.a_Office, dxq, _, _, rfl, hq6, T.oc.c, T.oc.n3, offF_c _ _ _ _, (by show 2 ≤ sizeLine; decide), fun l1 hl1 => ?_⟩
        have k7 : Ke H6 (upd H6 l1 (.lst [vm1, vc1])) := Ke.new hl1
        have k57 := k6.trans k7
        refine nilA (repr2 upd_same (TT.stb (TT.stb TI.stb) _ _ _ _ k57.tx hmq) (TT.stb TI.stb _ _ _ _ k57.tx hcq) ro (by decide) (by decide) ?_)
        generalize upd H6 l1 (.lst [vm1, vc1]) = H7 at k7 k57 ⊢
        have hx7 := k57.at hx5
        refine ⟨_, rfl, x, T.a_Office, dx5, _, _, rfl, hx7, T.oc.c, T.oc.n2, offF_m _ _ _ _, _, rfl, x, T.a_Office, dx5, _, _, rfl, hx7, T.oc.c, T.oc.n3, offF_c _ _ _ _, (by show 2 ≤ sizeLine; decide), fun l2 hl2 => ?_⟩
        have k8 : Ke H7 (upd H7 l2 (.lst [vm2, vc2])) := Ke.new hl2
        have k58 := k57.trans k8
        refine nilA (repr2 upd_same (TT.stb (TT.stb TI.stb) _ _ _ _ k58.tx hmx) (TT.stb TI.stb _ _ _ _ k58.tx hcx) ro (by decide) (by decide) ⟨rfl, ?_⟩)
        have e : decide (V.str (enc2 o).shown = V.str (enc2 o).shown) = true := decide_eq_true rfl
        show Q (V.bl (decide (V.str (enc2 o).shown = V.str (enc2 o).shown))) _
        rw [e]
        exact k _ (k05.trans k58)
end
end Fd
set_option Elab.async false
set_option linter.all false
set_option maxRecDepth 100000
set_option maxHeartbeats 4000000
namespace Fd
open PySem PySem.Spec PyProof.Rows L2
/-- a list comprehension over a walk: its items lean neither on what stood nor on the new list -/
theorem lc_W2 {J : It} {n : Nat} {G : Hp → Prop} {Y : Nat → Hp → V → Hp → Prop} {α β : Type} {R : Rl α} {R' : Rl β} (w : Walk J n G Y) (sR' : Sto R') (xs : List α) (p : α → Bool) (f : α → β) {g : TG} {tt : L2.TT} {te : TE} {ix : List Nat} {σ : L2.St} {H1 : Hp} {D : Addr} {Qd : Hp → Prop}
    (hn : H1 D = none) (hl : xs.length < sizeLine) (el : xs.length = n) (hG : ∀ H, Ke H1 H → G H) (hy : ∀ i H v H', Ke H1 H → Y i H v H' → H' = H ∧ ∃ x, xs[i]? = some x ∧ R H v x)
    (hs : ∀ v x H, x ∈ xs → R H v x → Ke H1 H → H D ≠ none → ∀ (Z : V → Hp → Prop) (Z' : Hp → Prop), (p x = true → ∀ u H', Ke H H' → R' (Nw H H') u (f x) → Z u H') → (p x = false → ∀ H', Ke H H' → Z' H') →
      g v (wipe σ ix) H fun σ2 H2 => wipe σ2 ix = wipe σ ix ∧ tt σ2 H2 fun b H3 => if b = true then te σ2 H3 Z else Z' H3)
    (hd : ∀ H ws, Ke H1 H → H D = some (.lst ws) → Paired (R' (Hd (fun a => Old H1 a ∨ a = D) H)) ws ((xs.filter p).map f) → Qd H) :
    ∃ W : Nat → Nat → Hp → Prop, (∃ m, W 0 m (upd H1 D (.lst []))) ∧ ∀ i m H, W i m H →
      (J.stop i H ∧ Qd H) ∨ (J.go i H ∧ ∃ Nx : Hp → Prop, (∀ H', Nx H' → ∃ m', m' < m ∧ W (i + 1) m' H') ∧ ∀ x H', J.yld i H x H' → g x (wipe σ ix) H' fun σ2 H2 => wipe σ2 ix = wipe σ ix ∧ tt σ2 H2 fun b H3 =>
        if b = true then te σ2 H3 fun y H4 => ∃ acc, H4 D = some (.lst acc) ∧ acc.length < sizeLine ∧ Nx (upd H4 D (.lst (acc ++ [y]))) else Nx H3) := by
  refine lc_it w (fun i H => Ke H1 H ∧ ∃ ws, H D = some (.lst ws) ∧ Paired (R' (Hd (fun a => Old H1 a ∨ a = D) H)) ws (((xs.take i).filter p).map f)) ⟨Ke.new hn, [], upd_same, .nil⟩ (fun i H _ q => hG H q.1) (fun i v H H' hi q y => ?_) fun H q => ?_
  · obtain ⟨k, ws, hD, pw⟩ := q
    obtain ⟨rfl, x, e, r⟩ := hy i H v H' k y
    have lw : ws.length ≤ i := by
      rw [plen pw, List.length_map]
      exact Nat.le_trans (List.length_filter_le _ _) (by rw [List.length_take]; omega)
    refine hs v x H' (List.mem_of_getElem? e) r k (by rw [hD]; simp) _ _ (fun px u H4 k4 ru => ?_) fun px H4 k4 => ?_
    · refine ⟨ws, k4.at hD, by omega, (k.trans k4).mutNew hn, ws ++ [u], upd_same, ?_⟩
      rw [filter_take p e, if_pos px, List.map_append]
      have up : ∀ {Hx : Hp}, Le (Hd (fun a => Old H1 a ∨ a = D) Hx) (Hd (fun a => Old H1 a ∨ a = D) (upd Hx D (.lst (ws ++ [u])))) := fun a o z => by
        obtain ⟨n1, z⟩ := Hd.at z
        exact Hd.get n1 (by rw [upd_ne (fun q => n1 (.inr q))]; exact z)
      refine papp (pimp (fun v x r => sR' _ _ v x ((Hd.ke k4.ks).trans (Le.ke up)) r) pw) (.cons (sR' _ _ _ _ (Le.ke fun a o z => ?_) ru) .nil)
      refine up a o (Hd.anti (fun b hb => ?_) a o z)
      rcases hb with hb | hb
      · exact hb.ke k
      · rw [hb]; exact .lst hD
    · refine ⟨k.trans k4, ws, k4.at hD, ?_⟩
      rw [filter_take p e, if_neg (by rw [px]; simp)]
      exact pimp (fun v x r => sR' _ _ v x (Hd.ke k4.ks) r) pw
  · obtain ⟨k, ws, hD, pw⟩ := q
    rw [← el, List.take_length] at pw
    exact hd H ws k hD pw
end Fd
set_option Elab.async false
set_option linter.all false
set_option maxRecDepth 100000
set_option maxHeartbeats 8000000
set_option pp.maxSteps 1500
namespace Fd
open PySem PySem.Spec PyProof.Rows L2 PySem.W
theorem reprDK {X : Cx} (K : Frag) (h : X.K = K) {k : Nat} (hr : Room k X.A) (hg : X.A.guards = some []) : CallR X (.builtin "repr") (rReprD K) := by rw [← h]; exact cr_reprD hr hg
theorem list_ofK {X : Cx} (K : Frag) (h : X.K = K) : CallR X (.type "list") (fun xs H Q => ∃ p ys, xs = [.ref p] ∧ (SqL K H p ys ∨ SqT K H p ys) ∧ ∀ l, H l = none → Q (.ref l) (upd H l (.lst ys))) := by rw [← h]; exact call_list_of
def sp_law (K : PySem.W.Frag) : Sp := fun xs H Q _ => ∃ (a : Addr) (ns : List Int), xs = [.ref a] ∧ SqL K H a (ns.map V.int) ∧ ns.length ≤ 63 ∧ ∀ H', Q (.bl true) H'
abbrev S6 (hd p l ml cl tl : Addr) : Addr → Prop := fun a => S5 hd p l ml cl a ∨ a = tl
/-- an office that was told, and what was told of it -/
def ToldR (CO hd p l ml cl tl : Addr) : Rl Ofc := fun H v o => ∃ t q, v = .ref t ∧ H t = some (.tup [.ref q, .str (enc2 o).shown]) ∧ OfAt CO (Hd (S6 hd p l ml cl tl) H) q o ∧ ∃ n, D2 o n ∧ n ≤ 30
theorem ToldR.ks {CO hd p l ml cl tl : Addr} {H H' : Hp} {v : V} {o : Ofc} (x : ToldR CO hd p l ml cl tl H v o) (k : Ks (S6 hd p l ml cl tl) H H') : ToldR CO hd p l ml cl tl H' v o := by
  obtain ⟨t, q, e, h, of, n⟩ := x
  exact ⟨t, q, e, k.tup _ _ h, of.ke (Hd.ke k), n⟩
/-- the list of what was told -/
def TlAt (CO hd p l ml cl tl : Addr) (H : Hp) (m : Nat) : Prop := ∃ ws os, H tl = some (.lst ws) ∧ Paired (ToldR CO hd p l ml cl tl H) ws os ∧ (os ≠ [] ∧ os.length ≤ m)
theorem TlAt.ks {CO hd p l ml cl tl : Addr} {H H' : Hp} {m : Nat} (x : TlAt CO hd p l ml cl tl H m) (k : Ks (S5 hd p l ml cl) H H') (n : ¬ S5 hd p l ml cl tl) : TlAt CO hd p l ml cl tl H' m := by
  obtain ⟨ws, os, h, p, e⟩ := x
  exact ⟨ws, os, k.keep _ _ n h, pimp (fun v o r => r.ks (k.mono fun a z => .inl z)) p, e⟩
/-- the shop's office, where nothing of the law's is leant on -/
theorem off6 {C hd p l ml cl tl : Addr} {H : Hp} {q : Addr} {o : Ofc} (x : OfAt C (Hd (S3 hd p l) H) q o) (r1 : RL H ml) (r2 : RL H cl) (r3 : RL H tl) : OfAt C (Hd (S6 hd p l ml cl tl) H) q o := by
  have h := off_hide (off_hide (off_hide x r1) r2) r3
  exact h.ke (Le.ke (Hd.anti fun a z => by
    rcases z with (z | z | z) | z
    · exact .inl (.inl (.inl z))
    · exact .inl (.inl (.inr z))
    · exact .inl (.inr z)
    · exact .inr z))
theorem TlAt.rl {CO hd p l ml cl tl : Addr} {H : Hp} {ws : List V} {os : List Ofc} (h : H tl = some (.lst ws)) (pw : Paired (ToldR CO hd p l ml cl tl H) ws os) (ne : os ≠ []) : RL H tl := by
  cases pw with
  | nil => exact absurd rfl ne
  | cons r _ =>
    obtain ⟨t, q, rfl, ht, _⟩ := r
    exact ⟨t, _, _, h, ht, fun kvs z => by cases z⟩
theorem SH.one {K : Frag} {CS hd ca p l tl : Addr} {H H' : Hp} {o : Ofc} {os : List Ofc} (x : SH K CS hd ca p l H o os) (n1 : hd ≠ tl) (n2 : ca ≠ tl) (n3 : p ≠ tl) (n4 : l ≠ tl) (r : RL H tl) (k : Ks (fun a => a = tl) H H') : SH K CS hd ca p l H' o os := by
  obtain ⟨dx, q, past, h1, h2, h3, h4⟩ := x.ex
  have st : ∀ v o, Std K (S3 hd p l) H v o → Std K (S3 hd p l) H' v o := fun v o ⟨q, C, e, oc, of⟩ => by
    have h := off_hide of r
    refine ⟨q, C, e, oc, h.ke (Ke.of fun a u e => ?_)⟩
    obtain ⟨e1, e2⟩ := Hd.at e
    exact Hd.get (fun z => e1 (.inl z)) (k.keep a u (fun z => e1 (.inr z)) e2)
  exact ⟨x.hA.ks k n1 n2, x.n1, x.n2, x.n3, x.n4, x.n5, dx, q, past, k.keep _ _ n3 h1, k.keep _ _ n4 h2, st _ _ h3, pimp st h4⟩
theorem LS.one {hd p l ml cl tl r q : Addr} {w : Str} {rest : List V} {H H' : Hp} {mv : List (List (List Int))} {clo : List (List Int)} (y : LS hd p l ml cl H mv clo) (n : ¬ S5 hd p l ml cl tl) (h : H tl = some (.lst (.ref r :: rest))) (hr : H r = some (.tup [.ref q, .str w])) (k : Ks (fun a => a = tl) H H') : LS hd p l ml cl H' mv clo := by
  obtain ⟨ws, h1, h2⟩ := y.m
  obtain ⟨us, g1, g2⟩ := y.c
  have tx : Tx (Hd (S5 hd p l ml cl) H) (Hd (S5 hd p l ml cl) H') := ⟨fun b xs e => by
    obtain ⟨e1, e2⟩ := Hd.at e
    exact Hd.get e1 (k.tup _ _ e2)⟩
  refine ⟨⟨ws, k.keep _ _ (fun z => n (.inr (.inl z.symm))) h1, pimp (fun v x z => ?_) h2⟩, ⟨us, k.keep _ _ (fun z => n (.inr (.inr z.symm))) g1, pimp (fun v x z => ?_) g2⟩⟩
  · obtain ⟨a, vs, rfl, ha, pv⟩ := z
    obtain ⟨e1, e2⟩ := Hd.at ha
    refine ⟨a, vs, rfl, Hd.get e1 (k.keep _ _ (fun z => ?_) e2), pimp (fun v x r => TI.stb _ _ v x tx r) pv⟩
    rw [z, h] at e2
    have e2 : V.ref r :: rest = vs := by injection e2 with e2; injection e2
    subst e2
    cases pv with
    | cons t _ =>
      obtain ⟨b, eb, hb⟩ := t
      cases eb
      have := (Hd.at hb).2
      rw [hr] at this
      injection this with this
      injection this with this
      rename_i m _ _
      cases m with
      | nil => cases this
      | cons m1 m => simp at this
  · obtain ⟨a, vs, rfl, ha, pv⟩ := z
    obtain ⟨e1, e2⟩ := Hd.at ha
    refine ⟨a, vs, rfl, Hd.get e1 (k.keep _ _ (fun z => ?_) e2), pimp (fun v x r => r) pv⟩
    rw [z, h] at e2
    have e2 : V.ref r :: rest = vs := by injection e2 with e2; injection e2
    subst e2
    cases pv with
    | cons t _ => cases t
theorem lk_data {K : Frag} {H : Hp} (r : Option Nat) : ∃ d, Dp K H (lkV r) d ∧ SeqAt.shaped d = true ∧ PyData.eqv d d = true := by
  cases r with
  | none => exact ⟨.none, .non, rfl, by simp [PyData.eqv]⟩
  | some n => exact ⟨.int _, .int _, rfl, by simp [PyData.eqv]⟩
theorem lk_isi {K : Frag} {H : Hp} (r : Option Nat) : ∃ t, TyX K H (lkV r) t ∧ PySem.W.kitOne K t (.type "bool") = some false := by
  cases r with
  | none => exact ⟨_, .base .non, rfl⟩
  | some n => exact ⟨_, .base (.int _), rfl⟩
def BoB : Rl Bool := fun _ v b => v = .bl b
theorem pair_bb {H : Hp} : ∀ {ws : List V} {bs : List Bool}, Paired (BoB H) ws bs → ws = bs.map V.bl
  | _, _, .nil => rfl
  | _, _, .cons r p => by rw [List.map_cons, r, pair_bb p]
theorem BoB.sto : Sto BoB := fun _ _ _ _ _ r => r
theorem both {K : Frag} {CS hd ca p l ml cl : Addr} {H : Hp} {o : Ofc} {os : List Ofc} {n : Nat} {G : Addr → Hp → Prop} (d2 : D2 o n)
    (h : ∀ t o' os' n' (dn : Bool) H', H' t = some (.tup [.bl true, .bl dn]) → D2 o' n' → n' ≤ n + 1 → os'.length = os.length + (if dn then 1 else 0) → o'.sz = o.sz → Ks (S5 hd p l ml cl) H H' → SH K CS hd ca p l H' o' os' → LS hd p l ml cl H' o'.mv o'.cl → G t H') :
  (∀ t o' H', H' t = some (.tup [.bl true, .bl true]) → D2 o' (n + 1) → o'.sz = o.sz → Ks (S5 hd p l ml cl) H H' → SH K CS hd ca p l H' o' (os ++ [o]) → LS hd p l ml cl H' o'.mv o'.cl → G t H') ∧
  (∀ t H', H' t = some (.tup [.bl true, .bl false]) → Ks (S5 hd p l ml cl) H H' → SH K CS hd ca p l H' o os → LS hd p l ml cl H' o.mv o.cl → G t H') :=
  ⟨fun t o' H' h1 h2 h3 h4 h5 h6 => h t o' (os ++ [o]) (n + 1) true H' h1 h2 (Nat.le_refl _) (by simp) h3 h4 h5 h6, fun t H' h1 h4 h5 h6 => h t o os n false H' h1 d2 (Nat.le_succ n) (by simp) rfl h4 h5 h6⟩
section
variable {P : Program} {w : World} {K : PySem.W.Frag} {mg : Str → Option Value} {base : Heap} (T : Txt K mg) (Er : Err P K mg) (Eq : ErrQ Er) (htop : (P.main.scope.names.lookup ("super" : Str)).isSome = false)
include T Er Eq htop
theorem ok_law : KeepsAt P w K mg base callerA T.a_law T.d_law P_law (sp_law K) := by
  have ok_l_changed : ∀ _ : Txt K mg, FnOk P w K mg base CX0 9 T.a_l_changed T.d_l_changed P_l_changed (sp_lchanged K T.a_Shop) := fun _ => ok_l_changed_ T Er htop
  have ok_l_same : ∀ _ : Txt K mg, FnG P w K mg base 7 T.a_l_same T.d_l_same P_l_same (sp_lsame K T.a_Shop) := fun _ => ok_l_same_ T Er Eq htop
  have ok_l_office : ∀ _ : Txt K mg, FnOk P w K mg base CX0 7 T.a_l_office T.d_l_office P_l_office (sp_loffice T.a_Office) := fun _ => ok_l_office_ T Er htop
  have ok_least_k : ∀ _ : Txt K mg, FnOk P w K mg base CX0 9 T.a_least_k T.d_least_k P_least_k (sp_least K) := fun _ => ok_least_k_ T Er htop
  have ok_Shop_least : ∀ _ : Txt K mg, FnOk P w K mg base CX0 10 T.a_Shop_least T.d_Shop_least P_Shop_least (sp_sleast K T.a_Shop) := fun _ => Fd.ok_Shop_least T Er htop
  refine keeps_of T.F_law sc_law (fun vs H Q E h => ?_) (k := 11) ⟨rfl, by decide, by decide⟩ (fun cdv outer s H vs Q E hr h => ?_)
  · obtain ⟨a, ns, rfl, _⟩ := h; rfl
  · obtain ⟨sa, ns, rfl, hS, hl63, k⟩ := h
    have oc := T.oc
    have hgd : (callerA.deeper (envOfC "law" (defScope s_law) s.heap.objs.size T.a_law cdv)).guards = some [] := rfl
    refine ⟨_, (pss_cons (ps_set (i := 1) sc_law.nd rfl (Or.inl rfl) (pe_call (ok_l_hand T) (hr.mono (by decide)) rfl T.g_l_hand T.k_l_hand T.b_l_hand .nil pass0 (pa_cons (pv 0) pa_nil)))
  (pss_cons (ps_set (i := 2) sc_law.nd rfl (Or.inl rfl) (pe_call (ok_l_sizes T) (hr.mono (by decide)) rfl T.g_l_sizes T.k_l_sizes T.b_l_sizes .nil pass0 (pa_cons (pv 1) (pa_cons pe_int pa_nil))))
  (pss_cons (ps_set (i := 3) sc_law.nd rfl (Or.inl rfl) (pe_call (ok_l_office T) (hr.mono (by decide)) rfl T.g_l_office T.k_l_office T.b_l_office .nil pass0 (pa_cons (pv 1) (pa_cons (pv 2) (pa_cons pe_int pa_nil)))))
  (pss_cons (ps_set (i := 4) sc_law.nd rfl (Or.inl rfl) (pe_make T.m_Shop (ok_Shop_init T) (hr.mono (by decide)) rfl T.g_Shop T.b_Shop_init .nil pass0 (pa_cons (pv 3) pa_nil)))
  (pss_cons (ps_setLc (i := 5) (own := [("_law_row", 15)]) rfl sc_law.nd rfl rfl (sw_true rfl rfl rfl (by decide +kernel)) (pi_tup (pe_fld (pv 3) rfl)) (blkOk_by (own := [("_law_row", 15)]) (N := N_law) (sc := defScope s_law) (by decide +kernel)) (fun _ _ _ _ _ => (pg_name (i := 15) sc_law.nd rfl (Or.inl rfl))) (fun _ _ _ _ _ => pts_nil) (fun _ _ _ _ _ => (pe_callTy (list_ofK K rfl) (by rfl) T.n_list (by decide +kernel) (pa_cons (pv 15) pa_nil))))
  (pss_cons (ps_setLc (i := 6) (own := [("_law_row", 15)]) rfl sc_law.nd rfl rfl (sw_true rfl rfl rfl (by decide +kernel)) (pi_tup (pe_fld (pv 3) rfl)) (blkOk_by (own := [("_law_row", 15)]) (N := N_law) (sc := defScope s_law) (by decide +kernel)) (fun _ _ _ _ _ => (pg_name (i := 15) sc_law.nd rfl (Or.inl rfl))) (fun _ _ _ _ _ => pts_nil) (fun _ _ _ _ _ => (pe_callTy (list_ofK K rfl) (by rfl) T.n_list (by decide +kernel) (pa_cons (pv 15) pa_nil))))
  (pss_cons (ps_set (i := 7) sc_law.nd rfl (Or.inl rfl) (pe_lst (pa_cons (pe_tup (pa_cons (pv 3) (pa_cons (pe_callB (cr_reprD hr hgd) (by rfl) T.n_repr (by decide +kernel) (pa_cons (pe_lst (pa_cons (pe_fld (pv 3) rfl) (pa_cons (pe_fld (pv 3) rfl) pa_nil))) pa_nil)) pa_nil))) pa_nil)))
  (pss_cons (ps_set (i := 8) sc_law.nd rfl (Or.inl rfl) pe_int)
  (pss_cons (ps_for PassesOwn.never rfl (pi_range1 rfl T.n_range (pa_cons (pe_call (ok_l_draw T) (hr.mono (by decide)) rfl T.g_l_draw T.k_l_draw T.b_l_draw .nil pass0 (pa_cons (pv 1) (pa_cons pe_int pa_nil))) pa_nil)) (pg_name (i := 9) sc_law.nd rfl (Or.inl rfl)) (pss_cons (ps_asg (pe_call (ok_l_changed T) (hr.mono (by decide)) rfl T.g_l_changed T.k_l_changed T.b_l_changed .nil pass0 (pa_cons (pv 1) (pa_cons (pv 4) (pa_cons (pv 2) (pa_cons (pv 5) (pa_cons (pv 6) pa_nil)))))) (pg_tup rfl (pgs_cons (pg_name (i := 10) sc_law.nd rfl (Or.inl rfl)) (pgs_cons (pg_name (i := 11) sc_law.nd rfl (Or.inl rfl)) pgs_nil))))
  (pss_cons (ps_set (i := 8) sc_law.nd rfl (Or.inl rfl) (pe_op op_add (pv 8) (pe_callTy call_int1 (by rfl) T.n_int (by decide +kernel) (pa_cons (pv 11) pa_nil))))
  (pss_cons (ps_if (PW.pt (pw_or (pt_not (pt_val (pv 10))) (pw_or (pt_not (pt_val (pe_callG (ok_l_same T) (hr.mono (by decide)) hgd rfl T.g_l_same T.k_l_same T.b_l_same (pa_cons (pv 4) (pa_cons (pv 2) (pa_cons (pv 5) (pa_cons (pv 6) pa_nil))))))) (pw_or1 (pt_cmpR op_ne (pe_meth0 (pv 4) T.c_Shop T.t_Shop_depth (ok_Shop_depth T) (hr.mono (by decide)) T.b_Shop_depth .nil pass0) (pv 8) (nomark _)))))) (pss_one (ps_ret pe_bl)) pss_nil)
  (pss_cons (ps_set (i := 12) sc_law.nd rfl (Or.inl rfl) (pe_meth0 (pv 4) T.c_Shop T.t_Shop_office (ok_Shop_office T) (hr.mono (by decide)) T.b_Shop_office .nil pass0))
  (pss_one (ps_expr (pe_bm PySem.F.plainAttrs_list PySem.F.slot_list_append PySem.F.type_list_append mt_append (pv 7) (pa_cons (pe_tup (pa_cons (pv 12) (pa_cons (pe_callB (cr_reprD hr hgd) (by rfl) T.n_repr (by decide +kernel) (pa_cons (pe_lst (pa_cons (pe_fld (pv 12) rfl) (pa_cons (pe_fld (pv 12) rfl) pa_nil))) pa_nil)) pa_nil))) pa_nil)))))))))
  (pss_cons (ps_set (i := 13) sc_law.nd rfl (Or.inl rfl) (pe_call (ok_least_k T) (hr.mono (by decide)) rfl T.g_least_k T.k_least_k T.b_least_k .nil pass0 (pa_cons (pe_make T.m_Office (ok_Office_init T Er htop) (hr.mono (by decide)) rfl T.g_Office T.b_Office_init .nil passL (pa_cons (pv 2) (pa_cons (pe_callTy call_tuple_of (by rfl) T.n_tuple (by decide +kernel) (pa_cons (pe_lc (own := [("_law_row", 15)]) rfl sc_law.nd (pi_list (pv 5)) (blkOk_by (own := [("_law_row", 15)]) (N := N_law) (sc := defScope s_law) (by decide +kernel)) (fun _ _ _ _ _ => (pg_name (i := 15) sc_law.nd rfl (Or.inl rfl))) (fun _ _ _ _ _ => pts_nil) (fun _ _ _ _ _ => (pe_callTy (tuple_ofK K rfl) (by rfl) T.n_tuple (by decide +kernel) (pa_cons (pv 15) pa_nil)))) pa_nil)) (pa_cons (pe_callTy call_tuple_of (by rfl) T.n_tuple (by decide +kernel) (pa_cons (pe_lc (own := [("_law_row", 15)]) rfl sc_law.nd (pi_list (pv 6)) (blkOk_by (own := [("_law_row", 15)]) (N := N_law) (sc := defScope s_law) (by decide +kernel)) (fun _ _ _ _ _ => (pg_name (i := 15) sc_law.nd rfl (Or.inl rfl))) (fun _ _ _ _ _ => pts_nil) (fun _ _ _ _ _ => (pe_callTy (tuple_ofK K rfl) (by rfl) T.n_tuple (by decide +kernel) (pa_cons (pv 15) pa_nil)))) pa_nil)) pa_nil)))) pa_nil)))
  (pss_cons (ps_set (i := 14) sc_law.nd rfl (Or.inl rfl) (pe_meth0 (pv 4) T.c_Shop T.t_Shop_least (ok_Shop_least T) (hr.mono (by decide)) T.b_Shop_least .nil pass0))
  (pss_cons (ps_if (PW.pt (pw_or (pt_cmpR (op_neD hr.units) (pv 14) (pv 13) (nomark _)) (pw_or (pt_val (pe_callB call_isi (by rfl) T.n_isinstance (by decide +kernel) (pa_cons (pv 14) (pa_cons (pe_bltn (v := .ty "bool") (by rfl) T.n_bool (by decide +kernel) rfl) pa_nil)))) (pw_or1 (pt_not (pt_val (pe_callG (ok_l_same T) (hr.mono (by decide)) hgd rfl T.g_l_same T.k_l_same T.b_l_same (pa_cons (pv 4) (pa_cons (pv 2) (pa_cons (pv 5) (pa_cons (pv 6) pa_nil))))))))))) (pss_one (ps_ret pe_bl)) pss_nil)
  (pss_one (ps_ret (pe_callB (cr_all rfl) (by rfl) T.n_all (by decide +kernel) (pa_cons (pe_lc (own := [("_law_office_here", 12), ("_law_kept", 16)]) rfl sc_law.nd (pi_list (pv 7)) (blkOk_by (own := [("_law_office_here", 12), ("_law_kept", 16)]) (N := N_law) (sc := defScope s_law) (by decide +kernel)) (fun _ _ _ _ _ => (pg_tupK (n := 2) K rfl rfl (pgs_cons (pg_name (i := 12) sc_law.nd rfl (Or.inl rfl)) (pgs_cons (pg_name (i := 16) sc_law.nd rfl (Or.inl rfl)) pgs_nil)))) (fun _ _ _ _ _ => pts_nil) (fun _ _ _ _ _ => (pe_cmpR op_eq (pe_callB (reprDK K rfl hr hgd) (by rfl) T.n_repr (by decide +kernel) (pa_cons (pe_lst (pa_cons (pe_fldK K rfl (pv 12) rfl) (pa_cons (pe_fldK K rfl (pv 12) rfl) pa_nil))) pa_nil)) (pv 16) (nomark _)))) pa_nil)))))))))))))))), ?_⟩
    refine ⟨_, rfl, sa, ns, rfl, hS, hl63, fun hd ca H1 hhd hca k1 hA1 => ?_⟩
    refine ⟨_, rfl, hd, ca, 3, rfl, hA1, ⟨by decide, by decide⟩, fun v a b c H2 ha hb hc k2 hA2 hs => ?_⟩
    refine ⟨_, rfl, _, rfl, hd, ca, v, a, b, c, 3, rfl, hA2, hs, by omega, by omega, by omega, ⟨by decide, by decide⟩, fun q o H3 es gd nn rw_ cl_ k3 hA3 of => stepN ?_⟩
    have hs3 := TI.stb _ _ _ _ k3.tx hs
    obtain ⟨z, rfl, hz⟩ := hs3
    have d0 : D2 o 0 := ⟨gd, by omega, fun r hr => by have := (rw_ r hr).2; omega⟩
    clear hS k1 k2 hA1 hA2 hs rw_ cl_
    have n1 := d0.g.m.1
    have n5 := d0.n5
    have clen := d0.clen
    dsimp only
    refine ⟨_, rfl, nilA (mk_shop hA3 (⟨q, _, rfl, oc, of⟩ : Std K (fun a => a = hd) H3 (.ref q) o) fun p l H5 k5 sh hp mv => stepN ?_)⟩
    have of5 := mv _ q rfl of
    have of5' : OfAt T.a_Office H5 q o := of5.ke (Le.ke Hd.le)
    obtain ⟨dxq, vs5, vm5, vc5, lk5, ds5, hq5, _, hm5, hc5, _, _⟩ := of5'.ex
    obtain ⟨mm, mws, rfl, hmm, pmm⟩ := hm5
    obtain ⟨cm, cws, rfl, hcm, pcm⟩ := hc5
    have lmm := plen pmm
    have lcm := plen pcm
    have hz5 := k5.tx.tup _ _ hz
    dsimp only
    -- the law's lists
    refine ⟨_, rfl, q, T.a_Office, dxq, _, _, rfl, hq5, oc.c, oc.n2, offF_m _ _ _ _, mm, rfl, ⟨_, SqT.of hmm⟩, fun ml hml => lc_W2 (R := TT TI) walk_tup ((LL.sto TI.stb.sto) : Sto (LL TI)) o.mv (fun _ => true) id hml (by rw [sizeLine_eq]; omega) lmm.symm (fun H4 k4 => SqT.of (k4.at hmm)) (fun a H4 v H5 k4 y => ?_) ?_ ?_⟩
    · obtain ⟨rfl, e⟩ := y
      obtain ⟨r, e2, rr⟩ := pgetL pmm e
      exact ⟨rfl, r, e2, TT.stb TI.stb _ _ _ _ k4.tx rr⟩
    · rintro v r H4 hr' ⟨ra, rws, rfl, hra, prw⟩ k4 nD Z Z' z z'
      refine ⟨rfl, yesT ?_⟩
      refine ⟨_, rfl, ra, rws, rfl, .inr (SqT.of hra), fun t ht => ?_⟩
      have kt : Ke H4 (upd H4 t (.lst rws)) := Ke.new ht
      exact z rfl _ _ kt ⟨t, rws, rfl, Nw.new ht upd_same, pimp (fun v x r => TI.stb _ _ v x (kt.tx.trans (Nw.tx kt)) r) prw⟩
    · intro H6 ws k6 hD6 pw6
      rw [List.map_id, List.filter_eq_self.mpr (fun _ _ => rfl)] at pw6
      refine stepN ?_
      dsimp only
      have hq6 := k6.at hq5
      have hcm6 := k6.at hcm
      refine ⟨_, rfl, q, T.a_Office, dxq, _, _, rfl, hq6, oc.c, oc.n3, offF_c _ _ _ _, cm, rfl, ⟨_, SqT.of hcm6⟩, fun cl hcl => lc_W2 (R := TI) walk_tup ((LL.sto II.stb.sto) : Sto (LL II)) o.cl (fun _ => true) id hcl (by rw [sizeLine_eq]; omega) lcm.symm (fun H4 k4 => SqT.of (k4.at hcm6)) (fun a H4 v H5 k4 y => ?_) ?_ ?_⟩
      · obtain ⟨rfl, e⟩ := y
        obtain ⟨r, e2, rr⟩ := pgetL pcm e
        exact ⟨rfl, r, e2, TI.stb _ _ _ _ (k6.trans k4).tx rr⟩
      · rintro v r H4 hr' ⟨ra, rfl, hra⟩ k4 nD Z Z' z z'
        refine ⟨rfl, yesT ?_⟩
        refine ⟨_, rfl, ra, _, rfl, .inr (SqT.of hra), fun t ht => ?_⟩
        have kt : Ke H4 (upd H4 t (.lst (r.map V.int))) := Ke.new ht
        exact z rfl _ _ kt ⟨t, _, rfl, Nw.new ht upd_same, pmap_int r⟩
      · intro H7 us k7 hD7 pw7
        rw [List.map_id, List.filter_eq_self.mpr (fun _ _ => rfl)] at pw7
        have k57 := k6.trans k7
        have sh7 := sh.ke k57
        have hml5 : H5 ml = none := hml
        have hcl6 : H6 cl = none := hcl
        have hcl5 : H5 cl = none := k6.free hcl6
        obtain ⟨dxp, hp5⟩ := hp
        obtain ⟨_, _, past5, hp5', hl5, _, _⟩ := sh.ex
        have fr : ∀ {a o}, H5 a = some o → a ≠ ml ∧ a ≠ cl := fun h => ⟨ne_of_none h hml5, ne_of_none h hcl5⟩
        obtain ⟨cells, i5, b5, s5, c5, hh5, hca5, _⟩ := sh.hA
        have ne : Ne5 hd ca p l ml cl := ⟨⟨(fr hh5).1.symm, (fr hca5).1.symm, (fr hp5).1.symm, (fr hl5).1.symm⟩, ⟨(fr hh5).2.symm, (fr hca5).2.symm, (fr hp5).2.symm, (fr hl5).2.symm⟩, ne_of_none hD6 hcl6⟩
        have hml7 := k7.at hD6
        have ls7 : LS hd p l ml cl H7 o.mv o.cl := by
          have old5 : ∀ a, S3 hd p l a → Old H5 a := by
            rintro a (rfl | rfl | rfl)
            · exact .lst hh5
            · exact ⟨by rw [hp5]; simp, fun xs z => by rw [hp5] at z; cases z⟩
            · exact .lst hl5
          refine ⟨⟨ws, hml7, pimp (fun v x r => LL.sto TI.stb.sto _ _ _ _ (Ke.of fun a u e => ?_) r) pw6⟩, ⟨us, hD7, pimp (fun v x r => LL.sto II.stb.sto _ _ _ _ (Ke.of fun a u e => ?_) r) pw7⟩⟩
          · obtain ⟨e1, e2⟩ := Hd.at e
            refine Hd.get (fun z => ?_) (k7.at e2)
            rcases z with z | z | z
            · exact e1 (.inl (old5 a z))
            · exact e1 (.inr z)
            · rw [z, hcl6] at e2; cases e2
          · obtain ⟨e1, e2⟩ := Hd.at e
            refine Hd.get (fun z => ?_) e2
            rcases z with z | z | z
            · exact e1 (.inl ((old5 a z).ke k6))
            · exact e1 (.inl (by rw [z]; exact .lst hD6))
            · exact e1 (.inr z)
        have mne : o.mv ≠ [] := by intro e; rw [e] at n1; exact absurd n1 (by decide)
        have cne : o.cl ≠ [] := by intro e; rw [e] at clen; simp at clen; omega
        refine stepN ?_
        dsimp only
        -- what was told
        have of7 : OfAt T.a_Office (Hd (S3 hd p l) H7) q o := of5.ke (Hd.ke k57.ks)
        have of7' : OfAt T.a_Office H7 q o := of7.ke (Le.ke Hd.le)
        obtain ⟨dx7, vs7, vm7, vc7, lk7, ds7, hq7, _, hm7, hc7, _, _⟩ := of7'.ex
        refine ⟨_, rfl, _, rfl, q, T.a_Office, dx7, _, _, rfl, hq7, oc.c, oc.n2, offF_m _ _ _ _, _, rfl, q, T.a_Office, dx7, _, _, rfl, hq7, oc.c, oc.n3, offF_c _ _ _ _, (by show 2 ≤ sizeLine; decide), fun l1 hl1 => ?_⟩
        have k8 : Ke H7 (upd H7 l1 (.lst [vm7, vc7])) := Ke.new hl1
        refine nilA (repr2 upd_same (TT.stb (TT.stb TI.stb) _ _ _ _ k8.tx hm7) (TT.stb TI.stb _ _ _ _ k8.tx hc7) (d0.ro (by decide)) (by decide) (by decide) ?_)
        generalize upd H7 l1 (.lst [vm7, vc7]) = H8 at k8 ⊢
        refine ⟨(by show 2 ≤ sizeLine; decide), fun t1 ht1 => ⟨(by show 1 ≤ sizeLine; decide), fun tl htl => stepN ?_⟩⟩
        dsimp only
        refine stepA ?_
        have htl8 : H8 tl = none := updN htl
        have k9 : Ke H8 (upd (upd H8 t1 (.tup [.ref q, .str (enc2 o).shown])) tl (.lst [.ref t1])) := (Ke.new ht1).trans (Ke.new htl)
        have h9t : (upd (upd H8 t1 (.tup [.ref q, .str (enc2 o).shown])) tl (.lst [.ref t1])) t1 = some (.tup [.ref q, .str (enc2 o).shown]) := (Ke.new htl).at upd_same
        have h9l : (upd (upd H8 t1 (.tup [.ref q, .str (enc2 o).shown])) tl (.lst [.ref t1])) tl = some (.lst [.ref t1]) := upd_same
        generalize upd (upd H8 t1 (.tup [.ref q, .str (enc2 o).shown])) tl (.lst [.ref t1]) = H9 at k9 h9t h9l ⊢
        have k79 := k8.trans k9
        have sh9 := sh7.ke k79
        have ls9 := ls7.ks ne k79.ks
        have ntl : ¬ S5 hd p l ml cl tl := fun e => by
          have := (S5.old sh7 ls7 tl e).1
          rw [k8.free htl8] at this
          exact this rfl
        have of9 : OfAt T.a_Office (Hd (S3 hd p l) H9) q o := of7.ke (Hd.ke k79.ks)
        have tl9 : TlAt T.a_Office hd p l ml cl tl H9 1 := ⟨_, [o], h9l, .cons ⟨t1, q, rfl, h9t, off6 of9 (ls9.rm mne) (ls9.rc cne) ⟨t1, [], _, h9l, h9t, fun kvs e => by cases e⟩, 0, d0, by decide⟩ .nil, by simp, by simp⟩
        have hz9 := (k57.trans k79).tx.tup _ _ hz5
        refine ⟨_, rfl, hd, ca, 21, rfl, sh9.hA, ⟨by decide, by decide⟩, fun r H10 r0 r1 k10 hA10 => ?_⟩
        obtain ⟨m, rfl⟩ : ∃ m : Nat, r = (m : Int) := ⟨r.toNat, by omega⟩
        refine ⟨m, rfl, by omega, by omega, for_range (lo := 0) (n := m) (fun i σ H' => ∃ (o' : Ofc) (os' : List Ofc) (n' : Nat), (∃ s9 s10 s11 s12 s13 s14 s15 s16, σ = [some (.ref sa), some (.ref hd), some (.ref z), some (.ref q), some (.ref p), some (.ref ml), some (.ref cl), some (.ref tl), some (.int os'.length), s9, s10, s11, s12, s13, s14, s15, s16]) ∧ H' z = some (.tup ([a, b, c].map V.int)) ∧
          SH K T.a_Shop hd ca p l H' o' os' ∧ LS hd p l ml cl H' o'.mv o'.cl ∧ D2 o' n' ∧ n' ≤ i ∧ os'.length ≤ i ∧ o'.sz = [a, b, c] ∧ TlAt T.a_Office hd p l ml cl tl H' (i + 1)) ?_ ?_ ?_⟩
        · have k10s : Ks (S3 hd p l) H9 H10 := k10.mono fun a z => .inl z
          exact ⟨o, [], 0, ⟨_, _, _, _, _, _, _, _, rfl⟩, k10.tup _ _ hz9, sh9.ks k10 hA10, ls9.ks ne k10s, d0, Nat.le_refl 0, Nat.le_refl 0, es, tl9.ks (k10s.mono fun a z => .inl z) ntl⟩
        · rintro i σ H11 hi ⟨o', os', n', ⟨s9, s10, s11, s12, s13, s14, s15, s16, rfl⟩, hz', sh', ls', d', hn', lo', es', tl'⟩
          refine ⟨_, rfl, _, rfl, _, rfl, _, rfl, _, rfl, hd, ca, p, l, ml, cl, .ref z, o', os', n', rfl, sh', ls', ne, ⟨z, rfl, by rw [es']; exact hz'⟩, d', by omega, by omega, both d' fun t o2 os2 n2 dn H12 ht dd hn2 el es2 kk sh2 ls2 => ?_⟩
          have tl2 := tl'.ks kk ntl
          have hz12 := kk.tup _ _ hz'
          refine ⟨t, _, rfl, SqT.of ht, rfl, _, _, rfl, _, _, rfl, rfl, ?_⟩
          refine ⟨_, rfl, _, rfl, .inr ⟨dn, rfl, _, _, rfl, rfl, stepN ?_⟩⟩
          have ed : ((os'.length : Int) + (if dn = true then 1 else 0)) = ((os2.length : Nat) : Int) := by
            rw [el]
            cases dn <;> simp
          dsimp only
          rw [ed]
          have es2' : o2.sz = [a, b, c] := es2.trans es'
          refine ⟨_, rfl, true, rfl, iteF ⟨_, rfl, _, rfl, _, rfl, _, rfl, hd, ca, p, l, ml, cl, .ref z, o2, os2, n2, rfl, sh2, ls2, ⟨z, rfl, by rw [es2']; exact hz12⟩, dd, by omega, fun H13 k13 => ⟨true, rfl, iteF ?_⟩⟩⟩
          have sh13 := sh2.ke k13
          have ls13 := ls2.ks ne k13.ks
          have tl13 := tl2.ks k13.ks ntl
          have hz13 := k13.tx.tup _ _ hz12
          obtain ⟨dx13, q13, past13, C13, dxo13, vs13, vm13, vc13, vk13, hp13, hl13, lp13, oc13, of13, hq13, _, hmm13, hcc13, _⟩ := sh13.at
          refine ⟨_, rfl, p, dx13, _, rfl, hp13, rfl, nilA ⟨hd, ca, p, l, o2, os2, rfl, sh13, _, rfl, rfl, _, rfl, ifNT rfl (stepT ?_)⟩⟩
          refine ⟨_, rfl, p, dx13, _, rfl, hp13, rfl, nilA ⟨hd, ca, p, l, o2, os2, rfl, sh13, fun dxx qq hpq _ => stepN ?_⟩⟩
          have eq13 : q13 = qq := by
            rw [hp13] at hpq
            injection hpq with hpq
            injection hpq with _ _ e
            have z := congrArg (List.lookup ("kept_now" : Str)) e
            rw [shF_n, shF_n] at z
            injection z with z
            injection z
          subst eq13
          have eC13 : C13 = T.a_Office := oc13.w.trans T.oc.w.symm
          subst eC13
          dsimp only
          obtain ⟨ws13, os13, htl13, pw13, ne13, lo13⟩ := tl13
          have lw13 := plen pw13
          refine ⟨_, rfl, .inl ⟨rfl, _, SqL.of htl13⟩, _, rfl, _, rfl, q13, T.a_Office, dxo13, _, _, rfl, hq13, oc.c, oc.n2, offF_m _ _ _ _, _, rfl, q13, T.a_Office, dxo13, _, _, rfl, hq13, oc.c, oc.n3, offF_c _ _ _ _, (by show 2 ≤ sizeLine; decide), fun l2 hl2 => ?_⟩
          have k14 : Ke H13 (upd H13 l2 (.lst [vm13, vc13])) := Ke.new hl2
          refine nilA (repr2 upd_same (TT.stb (TT.stb TI.stb) _ _ _ _ k14.tx hmm13) (TT.stb TI.stb _ _ _ _ k14.tx hcc13) (dd.ro (by omega)) (by decide) (by decide) ?_)
          generalize upd H13 l2 (.lst [vm13, vc13]) = H14 at k14 ⊢
          refine ⟨(by show 2 ≤ sizeLine; decide), fun t2 ht2 => ?_⟩
          have k15 : Ke H14 (upd H14 t2 (.tup [.ref q13, .str (enc2 o2).shown])) := Ke.new ht2
          have h15t : (upd H14 t2 (.tup [.ref q13, .str (enc2 o2).shown])) t2 = some (.tup [.ref q13, .str (enc2 o2).shown]) := upd_same
          generalize upd H14 t2 (.tup [.ref q13, .str (enc2 o2).shown]) = H15 at k15 h15t ⊢
          have k135 := k14.trans k15
          have htl15 := k135.at htl13
          refine ⟨tl, ws13, _, rfl, rfl, htl15, by rw [sizeLine_eq]; omega, stepN ?_⟩
          have sh15 := sh13.ke k135
          have ls15 := ls13.ks ne k135.ks
          have pw15 := pimp (fun v o r => r.ks k135.ks) pw13
          have rl15 : RL H15 tl := TlAt.rl htl15 pw15 ne13
          have mne2 : o2.mv ≠ [] := by intro e; have := dd.g.m.1; rw [e] at this; exact absurd this (by decide)
          have cne2 : o2.cl ≠ [] := by intro e; have h1 := dd.clen; rw [e] at h1; exact mne2 (List.eq_nil_of_length_eq_zero h1.symm)
          have of15 := off6 (of13.ke (Hd.ke k135.ks)) (ls15.rm mne2) (ls15.rc cne2) rl15
          have kz : Ks (fun a => a = tl) H15 (upd H15 tl (.lst (ws13 ++ [.ref t2]))) := (Ks.mut (Ks.refl (S := fun a => a = tl)) rfl (fun xs e => by rw [htl15] at e; cases e))
          obtain ⟨r15, rest15, u15, e15, er15, _⟩ := rl15
          have tlk : ∃ q' w', H15 r15 = some (.tup [.ref q', .str w']) := by
            have hws : ws13 = V.ref r15 :: rest15 := by
              rw [htl15] at e15
              injection e15 with e15
              injection e15
            rw [hws] at pw15
            cases pw15 with
            | cons x _ =>
              obtain ⟨t', q', et, ht', _⟩ := x
              cases et
              exact ⟨q', _, ht'⟩
          obtain ⟨q', w', ht'⟩ := tlk
          have ls16 := ls15.one ntl e15 ht' kz
          have cat : ca ≠ tl := by
            intro z'
            obtain ⟨cells', _, _, _, _, _, hca', _⟩ := sh15.hA
            rw [z', e15] at hca'
            have hca' : V.ref r15 :: rest15 = cells'.map V.int := by injection hca' with hca'; injection hca'
            cases cells' with
            | nil => cases hca'
            | cons x xs => cases hca'
          have sh16 := sh15.one (fun z => ntl (.inl (.inl z.symm))) cat (fun z => ntl (.inl (.inr (.inl z.symm)))) (fun z => ntl (.inl (.inr (.inr z.symm)))) (TlAt.rl htl15 pw15 ne13) kz
          have hz16 := kz.tup _ _ (k135.tx.tup _ _ hz13)
          have kz6 : Ks (S6 hd p l ml cl tl) H15 (upd H15 tl (.lst (ws13 ++ [.ref t2]))) := kz.mono fun a z => .inr z
          exact ⟨o2, os2, n2, ⟨_, _, _, _, _, _, _, _, rfl⟩, hz16, sh16, ls16, dd, by omega, by (cases dn <;> simp at el <;> omega), es2', _, os13 ++ [o2], upd_same, papp (pimp (fun v o r => r.ks kz6) pw15) (.cons ⟨t2, q13, rfl, kz6.tup _ _ h15t, of15.ke (Hd.ke kz6), n2, dd, by omega⟩ .nil), by simp, by simp; omega⟩
        · rintro σ H11 ⟨o', os', n', ⟨s9, s10, s11, s12, s13, s14, s15, s16, rfl⟩, hz', sh', ls', d', hn', lo', es', tl'⟩
          obtain ⟨ws', hml', pm'⟩ := ls'.m
          obtain ⟨us', hcl', pc'⟩ := ls'.c
          have lm' := plen pm'
          have lc' := plen pc'
          have n5' := d'.n5
          have clen' := d'.clen
          obtain ⟨wst, ost, htl', pwt, _, lot⟩ := tl'
          have lwt := plen pwt
          refine ⟨_, rfl, _, rfl, ml, rfl, ⟨_, SqL.of hml'⟩, fun D hD => lc_W (R := LL TI) walk_list ((TT.stb TI.stb).sto : Sto (TT TI)) o'.mv (fun _ => true) id hD (by rw [sizeLine_eq]; omega) lm'.symm (fun H4 k4 => SqL.of (k4.at hml')) (fun a H4 v H5 k4 y => ?_) ?_ ?_⟩
          · obtain ⟨rfl, e⟩ := y
            obtain ⟨r, e2, rr⟩ := pgetL pm' e
            exact ⟨rfl, r, e2, LL.sto TI.stb.sto _ _ _ _ ((Le.ke Hd.le).trans k4) rr⟩
          · rintro v r H4 hr' ⟨ra, rws, rfl, hra, prw⟩ k4 nD Z Z' z z'
            refine ⟨rfl, yesT ?_⟩
            refine ⟨_, rfl, ra, rws, rfl, .inl ⟨SqL.of hra, fun t ht => ?_⟩⟩
            have kt : Ke H4 (upd H4 t (.tup rws)) := Ke.new ht
            exact z rfl _ _ kt ⟨t, rws, rfl, (Nw.tx kt).tup _ _ upd_same, pimp (fun v x r => TI.stb _ _ v x (kt.tx.trans (Nw.tx kt)) r) prw⟩
          · intro H1 k1 hl1
            rw [List.map_id, List.filter_eq_self.mpr (fun _ _ => rfl)] at hl1
            obtain ⟨D', ws1, eD, hD1, pw1⟩ := hl1
            cases eD
            obtain ⟨_, hD1⟩ := Hd.at hD1
            refine ⟨D, ws1, rfl, .inl ⟨SqL.of hD1, fun t1' ht1' => ?_⟩⟩
            have k2 : Ke H1 (upd H1 t1' (.tup ws1)) := Ke.new ht1'
            have hm2 : MV (upd H1 t1' (.tup ws1)) (.ref t1') o'.mv := ⟨t1', ws1, rfl, upd_same, pimp (fun v x r => TT.stb TI.stb _ _ v x ((Le.ke Nw.le).tx.trans k2.tx) r) pw1⟩
            generalize upd H1 t1' (.tup ws1) = H2 at k2 hm2 ⊢
            have k02 := k1.trans k2
            refine ⟨_, rfl, cl, rfl, ⟨_, SqL.of (k02.at hcl')⟩, fun D2' hD2 => lc_W (R := LL II) walk_list (TI.stb.sto) o'.cl (fun _ => true) id hD2 (by rw [sizeLine_eq]; omega) lc'.symm (fun H4 k4 => SqL.of (k4.at (k02.at hcl'))) (fun a H4 v H5 k4 y => ?_) ?_ ?_⟩
            · obtain ⟨rfl, e⟩ := y
              obtain ⟨r, e2, rr⟩ := pgetL pc' e
              exact ⟨rfl, r, e2, LL.sto II.stb.sto _ _ _ _ (((Le.ke Hd.le).trans k02).trans k4) rr⟩
            · rintro v r H4 hr' ⟨ra, rws, rfl, hra, prw⟩ k4 nD Z Z' z z'
              have er := paired_int (H := H4) prw
              subst er
              refine ⟨rfl, yesT ?_⟩
              refine ⟨_, rfl, ra, _, rfl, .inl ⟨SqL.of hra, fun t ht => ?_⟩⟩
              have kt : Ke H4 (upd H4 t (.tup (r.map V.int))) := Ke.new ht
              exact z rfl _ _ kt ⟨t, rfl, (Nw.tx kt).tup _ _ upd_same⟩
            · intro H3 k3' hl3
              rw [List.map_id, List.filter_eq_self.mpr (fun _ _ => rfl)] at hl3
              obtain ⟨D3, ws3, eD, hD3, pw3⟩ := hl3
              cases eD
              obtain ⟨_, hD3⟩ := Hd.at hD3
              refine ⟨D2', ws3, rfl, .inl ⟨SqL.of hD3, fun t3 ht3 => ?_⟩⟩
              have k4 : Ke H3 (upd H3 t3 (.tup ws3)) := Ke.new ht3
              have hc4 : CL (upd H3 t3 (.tup ws3)) (.ref t3) o'.cl := ⟨t3, ws3, rfl, upd_same, pimp (fun v x r => TI.stb _ _ v x ((Le.ke Nw.le).tx.trans k4.tx) r) pw3⟩
              generalize upd H3 t3 (.tup ws3) = H4 at k4 hc4 ⊢
              have k24 := k3'.trans k4
              have k04 := k02.trans k24
              refine nilA fun x dxx hx hdx ndx => ?_
              have kA : Ke H4 (upd (upd H4 dxx (.own x)) x (.ins T.a_Office dxx [])) := (Ke.new hdx).trans (Ke.new (by rw [upd_ne ndx.symm]; exact hx))
              have hxA : (upd (upd H4 dxx (.own x)) x (.ins T.a_Office dxx [])) x = some (.ins T.a_Office dxx []) := upd_same
              generalize upd (upd H4 dxx (.own x)) x (.ins T.a_Office dxx []) = HA at kA hxA ⊢
              have k0A := k04.trans kA
              refine ⟨No, x, dxx, .ref z, .ref t1', .ref t3, o'.sz, o'.mv, o'.cl, rfl, hxA, (fun z => z), (fun a z => z.elim), by rw [Hd.no, es']; exact ⟨z, rfl, k0A.tx.tup _ _ hz'⟩, by rw [Hd.no]; exact TT.stb (TT.stb TI.stb) _ _ _ _ (k24.trans kA).tx hm2, by rw [Hd.no]; exact TT.stb TI.stb _ _ _ _ kA.tx hc4, d'.g.s.1, by omega, (good_sh d'.g).2.2, fun zz hz d H' _ _ => (good_bad d'.g hz).elim, fun g H5' k5' of5x => ⟨rfl, ?_⟩⟩
              rw [Hd.no] at of5x
              have k05 : Ke H11 H5' := Ks.comp k0A.ks k5' (fun _ z => z) (fun y z => .inr (by rw [z]; exact k04.free hx))
              refine nilA ⟨x, _, T.a_Office, rfl, T.oc, of5x, d'.wf, d'.few, d'.steps, fun r1' H6' k6' lk1 => stepN ?_⟩
              have k06 := k05.trans k6'
              dsimp only
              obtain ⟨dx6, q6, past6, C6, dxo6, vs6, vm6, vc6, vk6, hp6, _⟩ := (sh'.ke k06).at
              refine ⟨_, rfl, p, dx6, _, rfl, hp6, rfl, nilA ⟨hd, ca, p, l, o', os', rfl, sh'.ke k06, d'.wf, d'.few, d'.steps, fun r2' H7' k7' lk2 => stepN ?_⟩⟩
              have er := lk1.uniq lk2
              subst er
              have k07 := k06.trans k7'
              dsimp only
              obtain ⟨d1, dp1, sd1, ev1⟩ := lk_data (K := K) (H := H7') r1'
              have ev1' : (!PyData.eqv d1 d1) = false := by rw [ev1]; rfl
              refine ⟨_, rfl, _, rfl, d1, d1, dp1, dp1, sd1, sd1, _, rfl, ?_⟩
              rw [ev1']
              obtain ⟨t5, ty5, kt5⟩ := lk_isi (K := K) (H := H7') r1'
              refine iteF ⟨_, rfl, lkV r1', .ty "bool", t5, .type "bool", false, rfl, .ty _, ty5, kt5, false, rfl, iteF ?_⟩
              refine ⟨_, rfl, _, rfl, _, rfl, _, rfl, hd, ca, p, l, ml, cl, .ref z, o', os', n', rfl, sh'.ke k07, ls'.ks ne k07.ks, ⟨z, rfl, by rw [es']; exact k07.tx.tup _ _ hz'⟩, d', by omega, fun H8' k8' => ⟨true, rfl, iteF (stepT ?_)⟩⟩
              have k08 := k07.trans k8'
              have htl8' := k08.at htl'
              have pw8 := pimp (fun v o r => r.ks k08.ks) pwt
              refine ⟨_, rfl, tl, rfl, ⟨_, SqL.of htl8'⟩, fun D5 hD5 => lc_W (R := ToldR T.a_Office hd p l ml cl tl) walk_list BoB.sto ost (fun _ => true) (fun _ => true) hD5 (by rw [sizeLine_eq]; omega) lwt.symm (fun H4 k4 => SqL.of (k4.at htl8')) (fun a H4 v H5 k4 y => ?_) ?_ ?_⟩
              · obtain ⟨rfl, e⟩ := y
                obtain ⟨r, e2, rr⟩ := pgetL pw8 e
                exact ⟨rfl, r, e2, rr.ks k4.ks⟩
              · rintro v r H5 hr' ⟨t, q', rfl, ht, of, n', dn, hn'⟩ k4 nD Z Z' zz zz'
                have of' : OfAt T.a_Office H5 q' r := of.ke (Le.ke Hd.le)
                obtain ⟨dxq', vs', vm', vc', lk', ds', hq', _, hm', hc', _, _⟩ := of'.ex
                refine ⟨t, _, rfl, SqT.of ht, rfl, _, _, rfl, _, _, rfl, rfl, rfl, yesT ?_⟩
                refine ⟨_, rfl, q', T.a_Office, dxq', _, _, rfl, hq', oc.c, oc.n2, offF_m _ _ _ _, _, rfl, q', T.a_Office, dxq', _, _, rfl, hq', oc.c, oc.n3, offF_c _ _ _ _, (by show 2 ≤ sizeLine; decide), fun l2 hl2 => ?_⟩
                have kk : Ke H5 (upd H5 l2 (.lst [vm', vc'])) := Ke.new hl2
                refine nilA (repr2 upd_same (TT.stb (TT.stb TI.stb) _ _ _ _ kk.tx hm') (TT.stb TI.stb _ _ _ _ kk.tx hc') (dn.ro (by omega)) (by decide) (by decide) ⟨_, rfl, rfl, ?_⟩)
                have e : decide (V.str (enc2 r).shown = V.str (enc2 r).shown) = true := decide_eq_true rfl
                rw [e]
                exact zz rfl _ _ kk rfl
              · intro H9' k9' hl
                obtain ⟨D6, ws6, eD, hD6', pw6'⟩ := hl
                cases eD
                rw [List.filter_eq_self.mpr (fun _ _ => rfl)] at pw6'
                have ew := pair_bb pw6'
                obtain ⟨_, hD6'⟩ := Hd.at hD6'
                refine ⟨D5, ost.map fun _ => true, rfl, ?_, ?_⟩
                · rw [← ew]; exact SqL.of hD6'
                · have ea : (ost.map fun _ => true).all id = true := by simp
                  rw [ea]
                  exact k _
end
end Fd
set_option Elab.async false
set_option linter.all false
set_option maxRecDepth 100000
set_option maxHeartbeats 0
namespace Fd
open PySem PySem.Spec PyProof.Rows L2
theorem law_binds {K : PySem.W.Frag} {f : Addr} {fd : FuncData} (F : Fun K "law" "law" s_law f fd) (s : Shared) (u : Value) : BindsTo s fd ⟨[u], []⟩ [("_law_script", u)] := by
  obtain ⟨oc, od, kV, doc, pm, an, cdv, ct, osl, e, l, c⟩ := F.ex
  subst e
  exact .of_eq rfl
end Fd
open PySem PySem.W PySem.Calls PyProof.Rows
theorem PySem.Challenge.cw_falsedays_k89_whole_shop_by_own_list_holds : PySem.Challenge.rw_falsedays_k89_whole_shop_by_own_list.Holds := by
  w_on; o_law
  refine HandSHeadRun.head_any (r := OpenLaw.row PySem.Challenge.rw_falsedays_k89_whole_shop_by_own_list) (q := view (OpenLaw.row PySem.Challenge.rw_falsedays_k89_whole_shop_by_own_list).prog [66]) (H := Fd.hkk) (ob := Fd.obb) (M := 6000) (loose := Fd.looseL)
    (d := HandSHeadRun.topDef (OpenLaw.row PySem.Challenge.rw_falsedays_k89_whole_shop_by_own_list).prog 66) (kwd := []) Fd.obb_eq (by kernel_rfl) (fun s => by kernel_rfl) Fd.runn (by kernel_rfl) (by kernel_rfl) (by kernel_rfl) (by rfl) (by first | assumption | decide +kernel) (by decide +kernel) ⟨rfl, rfl, rfl, rfl, rfl, by decide +kernel⟩ ?hw ?hc
  case hw => w_witness2
  case hc =>
    refine Fd.walk_at (l := PySem.Challenge.rw_falsedays_k89_whole_shop_by_own_list) (n := 63) (x := "_law_script") rfl (by decide) (by kernel_rfl) ?F
    intro w mg fa h Y G hmg0
    obtain ⟨K, KX, c⟩ := Y
    have hmg : mg ("law" : PySem.Str) = some (.ref fa) := by
      have e : (HandSHeadRun.topDef (OpenLaw.row PySem.Challenge.rw_falsedays_k89_whole_shop_by_own_list).prog 66).name = ("law" : PySem.Str) := by kernel_rfl
      rw [← e]
      exact hmg0
    obtain ⟨T, _⟩ := Fd.txt_of KX G c.d
    obtain ⟨Er, Eq⟩ := Fd.err_of KX G c
    have e := hmg.symm.trans T.g_law
    cases e
    exact ⟨K, T.d_law, Fd.sp_law K, KX, Fd.law_binds T.F_law, fun H a ns hl _ hS => ⟨a, ns, rfl, hS, hl, fun _ => rfl⟩, fun base _ _ => Fd.ok_law T Er Eq (by decide +kernel)⟩
