import PyProof.Rows.All
import Wide.All
import OpenK.AllK
import Wide.FinOn
import HandS.ForMost
import HandS.WordsExc
import HandS.TupAny
import HandS.IsInst
import KE.SortData
import KE.LtData
import HandS.TupLe
import HandS.Deep
import HandS.More
import PyProof.Rows.ReprR
import PyProof.DictMoreH
import KE.KDictDisplayH
import KE.KDictWalk
import HandS.Conv
import HandS.Zip
import HandS.TupLen
import HandS.TupMul
import HandS.SetKeys
import KE.SortCalls
import HandS.Ends
import HandS.HeadEnd
import KE.KEqDeep
import PyProof.ReprLen
import PySem.Challenge.RW_falsedays_k80_whole_where_editions_part
import KE.KExcSuper
import HandS.Base
import HandS.Call
import HandS.Exc
import HandS.ExcInit
import HandS.ExcSuper
import HandS.Nested
import KE.DataMinMax
import KE.KExcIs
import HandS.ExcIs
import HandS.ExcOwn
import PyProof.Claim2Refuses
import HandS.ExcField
import HandS.HeadHook1
import HandS.HeadHook2
import HandS.Walk
import KE.KeyNested
import PyProof.CallFns
import KE.KStateDown
import HandS.Defaults
import HandS.Head0
import HandS.Head1
import HandS.Head2
set_option Elab.async false
set_option linter.all false
set_option maxRecDepth 100000
set_option maxHeartbeats 4000000
/-! A layer over HandS: what stays from one abstract heap to another, values told by data, readings run under a resource. -/
namespace Fd
open PySem PySem.Spec PyProof.Rows L2

/-! ### heaps: what stays -/
/-- all but the objects of S stays; tuples stay; nothing vanishes -/
structure Ks (S : Addr → Prop) (H H' : Hp) : Prop where
  keep : ∀ a o, ¬ S a → H a = some o → H' a = some o
  tup : ∀ a xs, H a = some (.tup xs) → H' a = some (.tup xs)
  there : ∀ a, H a ≠ none → H' a ≠ none

/-- nothing is excepted -/
abbrev No : Addr → Prop := fun _ => False
/-- all stays -/
abbrev Ke (H H' : Hp) : Prop := Ks No H H'

section
variable {S : Addr → Prop} {H H1 H2 H3 : Hp} {a p : Addr} {o : HO}
theorem Ks.refl : Ks S H H := ⟨fun _ _ _ h => h, fun _ _ h => h, fun _ h => h⟩
theorem Ks.trans (x : Ks S H H1) (y : Ks S H1 H2) : Ks S H H2 :=
  ⟨fun a o n h => y.keep a o n (x.keep a o n h), fun a xs h => y.tup a xs (x.tup a xs h), fun a h => y.there a (x.there a h)⟩
theorem Ke.ks (x : Ke H H1) : Ks S H H1 := ⟨fun a o _ h => x.keep a o (fun z => z) h, x.tup, x.there⟩
theorem Ke.at (x : Ke H H1) (h : H a = some o) : H1 a = some o := x.keep a o (fun z => z) h
theorem Ks.at (x : Ks No H H1) (h : H a = some o) : H1 a = some o := x.keep a o (fun z => z) h
theorem Ks.ks (x : Ks No H H1) : Ks S H H1 := Ke.ks x
theorem Ke.of (h : ∀ a o, H a = some o → H1 a = some o) : Ke H H1 := ⟨fun a o _ => h a o, fun a xs => h a _, fun a n => by
  cases e : H a with
  | none => exact absurd e n
  | some o => rw [h a o e]; simp⟩
theorem Ke.new (h : H p = none) : Ke H (upd H p o) := Ke.of fun a u e => by
  rw [upd_ne (ne_of_none e h)]; exact e
theorem Ks.free (x : Ks S H H1) (h : H1 p = none) : H p = none := by
  cases e : H p with
  | none => rfl
  | some o => exact absurd h (x.there p (by rw [e]; simp))
/-- an object that is no tuple is changed, a place of S -/
theorem Ks.mut (x : Ks S H H1) (s : S p) (h : ∀ xs, H1 p ≠ some (.tup xs)) : Ks S H (upd H1 p o) :=
  ⟨fun a u n e => by
    rw [upd_ne (fun z : a = p => n (by rw [z]; exact s))]; exact x.keep a u n e,
   fun a xs e => by
    have n : a ≠ p := fun z => by
      subst z; exact h xs (x.tup _ xs e)
    rw [upd_ne n]; exact x.tup a xs e,
   fun a n => by
    by_cases e : a = p
    · subst e; rw [upd_same]; simp
    · rw [upd_ne e]; exact x.there a n⟩
/-- .. or one that did not stand at the beginning -/
theorem Ks.mutNew (x : Ks S H H1) (h : H p = none) : Ks S H (upd H1 p o) :=
  ⟨fun a u n e => by rw [upd_ne (ne_of_none e h)]; exact x.keep a u n e,
   fun a xs e => by rw [upd_ne (ne_of_none e h)]; exact x.tup a xs e,
   fun a n => by
    by_cases e : a = p
    · subst e; rw [upd_same]; simp
    · rw [upd_ne e]; exact x.there a n⟩
theorem Ks.mono {S' : Addr → Prop} (x : Ks S H H1) (h : ∀ a, S a → S' a) : Ks S' H H1 := ⟨fun a o n => x.keep a o fun z => n (h a z), x.tup, x.there⟩
end

/-! ### values told by data -/
/-- a relation of values to data that hangs on the tuples alone -/
structure Tx (H H' : Hp) : Prop where
  tup : ∀ a xs, H a = some (.tup xs) → H' a = some (.tup xs)
theorem Tx.trans {H H1 H2 : Hp} (x : Tx H H1) (y : Tx H1 H2) : Tx H H2 := ⟨fun a xs h => y.tup a xs (x.tup a xs h)⟩
theorem Tx.refl {H : Hp} : Tx H H := ⟨fun _ _ h => h⟩
theorem Ks.tx {S : Addr → Prop} {H H1 : Hp} (x : Ks S H H1) : Tx H H1 := ⟨x.tup⟩

abbrev Rl (α : Type) := Hp → V → α → Prop
/-- it stays where tuples stay -/
def Stb {α : Type} (R : Rl α) : Prop := ∀ H H' v x, Tx H H' → R H v x → R H' v x
/-- it stays where all stays -/
def Sto {α : Type} (R : Rl α) : Prop := ∀ H H' v x, Ke H H' → R H v x → R H' v x
theorem Stb.sto {α : Type} {R : Rl α} (s : Stb R) : Sto R := fun H H' v x k h => s H H' v x k.tx h
/-- an int -/
def II : Rl Int := fun _ v n => v = .int n
/-- a bool -/
def BB : Rl Bool := fun _ v b => v = .bl b
/-- a tuple of ints -/
def TI : Rl (List Int) := fun H v ns => ∃ a, v = .ref a ∧ H a = some (.tup (ns.map V.int))
/-- a tuple of such -/
def TT {α : Type} (R : Rl α) : Rl (List α) := fun H v xs => ∃ a vs, v = .ref a ∧ H a = some (.tup vs) ∧ Paired (R H) vs xs
/-- a list of such -/
def LL {α : Type} (R : Rl α) : Rl (List α) := fun H v xs => ∃ a vs, v = .ref a ∧ H a = some (.lst vs) ∧ Paired (R H) vs xs
/-- a pair of such -/
def PP {α β : Type} (R : Rl α) (R' : Rl β) : Rl (α × β) := fun H v x => ∃ a u w, v = .ref a ∧ H a = some (.tup [u, w]) ∧ R H u x.1 ∧ R' H w x.2

theorem pimp {α β : Type} {F G : α → β → Prop} (f : ∀ a b, F a b → G a b) : ∀ {l : List α} {m : List β}, Paired F l m → Paired G l m
  | _, _, .nil => .nil
  | _, _, .cons h t => .cons (f _ _ h) (pimp f t)
/-- places of what is paired -/
theorem pget {α β : Type} {F : α → β → Prop} : ∀ {l : List α} {m : List β} {i : Nat} {y : β}, Paired F l m → m[i]? = some y → ∃ x, l[i]? = some x ∧ F x y
  | _, _, _, _, .nil, e => by simp at e
  | _, _, 0, _, .cons h _, e => by
    have e' := Option.some.inj (by simpa using e)
    subst e'
    exact ⟨_, rfl, h⟩
  | _, _, i + 1, y, .cons _ t, e => by
    obtain ⟨x, h1, h2⟩ := pget (i := i) (y := y) t (by simpa using e)
    exact ⟨x, by simpa using h1, h2⟩
theorem pgetL {α β : Type} {F : α → β → Prop} : ∀ {l : List α} {m : List β} {i : Nat} {x : α}, Paired F l m → l[i]? = some x → ∃ y, m[i]? = some y ∧ F x y
  | _, _, _, _, .nil, e => by simp at e
  | _, _, 0, _, .cons h _, e => by
    have e' := Option.some.inj (by simpa using e)
    subst e'
    exact ⟨_, rfl, h⟩
  | _, _, i + 1, x, .cons _ t, e => by
    obtain ⟨y, h1, h2⟩ := pgetL (i := i) (x := x) t (by simpa using e)
    exact ⟨y, by simpa using h1, h2⟩
theorem plen {α β : Type} {F : α → β → Prop} {l : List α} {m : List β} (p : Paired F l m) : l.length = m.length := Paired.length p
theorem patI {α β : Type} {F : α → β → Prop} {l : List α} {m : List β} {i : Int} {y : β} (p : Paired F l m) (e : atI m i = some y) : ∃ x, atI l i = some x ∧ F x y := by
  unfold atI at e ⊢
  rw [plen p]
  cases q : ixN m.length i with
  | none => rw [q] at e; cases e
  | some j =>
    rw [q] at e
    have e' : m[j]? = some y := e
    obtain ⟨x, h1, h2⟩ := pget p e'
    exact ⟨x, h1, h2⟩
theorem papp {α β : Type} {F : α → β → Prop} : ∀ {l l' : List α} {m m' : List β}, Paired F l m → Paired F l' m' → Paired F (l ++ l') (m ++ m')
  | _, _, _, _, .nil, q => q
  | _, _, _, _, .cons h t, q => .cons h (papp t q)
theorem pset {α β : Type} {F : α → β → Prop} {x : α} {y : β} (h : F x y) : ∀ {l : List α} {m : List β} (i : Nat), Paired F l m → Paired F (l.set i x) (m.set i y)
  | _, _, _, .nil => .nil
  | _, _, 0, .cons _ t => .cons h t
  | _, _, i + 1, .cons q t => .cons q (pset h i t)
theorem II.stb : Stb II := fun _ _ _ _ _ h => h
theorem BB.stb : Stb BB := fun _ _ _ _ _ h => h
theorem TI.stb : Stb TI := fun _ _ _ _ k ⟨a, e, h⟩ => ⟨a, e, k.tup a _ h⟩
theorem TT.stb {α : Type} {R : Rl α} (s : Stb R) : Stb (TT R) := fun _ _ _ _ k ⟨a, vs, e, h, p⟩ => ⟨a, vs, e, k.tup a _ h, pimp (fun v x r => s _ _ v x k r) p⟩
theorem PP.stb {α β : Type} {R : Rl α} {R' : Rl β} (s : Stb R) (s' : Stb R') : Stb (PP R R') := fun _ _ _ _ k ⟨a, u, w, e, h, p, q⟩ => ⟨a, u, w, e, k.tup a _ h, s _ _ _ _ k p, s' _ _ _ _ k q⟩
theorem LL.sto {α : Type} {R : Rl α} (s : Sto R) : Sto (LL R) := fun _ _ _ _ k ⟨a, vs, e, h, p⟩ => ⟨a, vs, e, k.at h, pimp (fun v x r => s _ _ v x k r) p⟩
theorem TT.sto {α : Type} {R : Rl α} (s : Sto R) : Sto (TT R) := fun _ _ _ _ k ⟨a, vs, e, h, p⟩ => ⟨a, vs, e, k.at h, pimp (fun v x r => s _ _ v x k r) p⟩

theorem pmap_int {H : Hp} : ∀ ns : List Int, Paired (II H) (ns.map V.int) ns
  | [] => .nil
  | _ :: ns => .cons rfl (pmap_int ns)
theorem paired_int {H : Hp} : ∀ {vs : List V} {ns : List Int}, Paired (II H) vs ns → vs = ns.map V.int
  | _, _, .nil => rfl
  | _, _, .cons h t => by
    have h' : _ = V.int _ := h
    rw [h', paired_int t]; rfl
theorem TI.tt {H : Hp} {v : V} {ns : List Int} : TI H v ns ↔ TT II H v ns :=
  ⟨fun ⟨a, e, h⟩ => ⟨a, _, e, h, pmap_int ns⟩, fun ⟨a, vs, e, h, p⟩ => ⟨a, e, by rw [h, paired_int p]⟩⟩

/-! ### data as the library takes it -/
def tI (ns : List Int) : PyData := .tuple (ns.map .int)
def Enc {α : Type} (R : Rl α) (e : α → PyData) : Prop := ∀ (K : PySem.W.Frag) H v x, R H v x → Dp K H v (e x)
theorem II.enc : Enc II .int := fun K H v x h => by
  have h' : v = .int x := h
  rw [h']; exact .int x
theorem BB.enc : Enc BB .bool := fun K H v x h => by
  have h' : v = .bl x := h
  rw [h']; exact .bl x
theorem dpAll_of {α : Type} {R : Rl α} {e : α → PyData} (en : Enc R e) {K : PySem.W.Frag} {H : Hp} : ∀ {vs : List V} {xs : List α}, Paired (R H) vs xs → DpAll K H vs (xs.map e)
  | _, _, .nil => .nil
  | _, _, .cons h t => .cons (en K H _ _ h) (dpAll_of en t)
theorem TT.enc {α : Type} {R : Rl α} {e : α → PyData} (en : Enc R e) : Enc (TT R) fun xs => .tuple (xs.map e) := fun K H v x ⟨a, vs, ev, h, p⟩ => by
  rw [ev]; exact .tup (SqT.of h) (dpAll_of en p)
theorem LL.enc {α : Type} {R : Rl α} {e : α → PyData} (en : Enc R e) : Enc (LL R) fun xs => .list (xs.map e) := fun K H v x ⟨a, vs, ev, h, p⟩ => by
  rw [ev]; exact .lst (SqL.of h) (dpAll_of en p)
theorem TI.enc : Enc TI tI := fun K H v x h => TT.enc II.enc K H v x (TI.tt.mp h)
theorem PP.enc {α β : Type} {R : Rl α} {R' : Rl β} {e : α → PyData} {e' : β → PyData} (en : Enc R e) (en' : Enc R' e') : Enc (PP R R') fun x => .tuple [e x.1, e' x.2] := fun K H v x ⟨a, u, w, ev, h, p, q⟩ => by
  rw [ev]; exact .tup (SqT.of h) (.cons (en K H _ _ p) (.cons (en' K H _ _ q) .nil))

/-! ### running readings -/
/-- a resource: the objects that may change, a word that stays while they do -/
structure Res where
  S : Addr → Prop
  W : Hp → Prop
  st : ∀ H H', (∀ a o, S a → H a = some o → H' a = some o) → Tx H H' → Ks No H H' → W H → W H'
/-- nothing changes -/
def pu : Res := ⟨No, fun _ => True, fun _ _ _ _ _ _ => True.intro⟩

/-- from every heap that comes behind H the reading t gives something of which P tells -/
def Rn (ρ : Res) {α : Type} (t : Hp → (α → Hp → Prop) → Prop) (H : Hp) (P : α → Hp → Prop) : Prop :=
  ∀ H1, Ks ρ.S H H1 → ρ.W H1 → ∀ Q : α → Hp → Prop, (∀ x H2, Ks ρ.S H1 H2 → ρ.W H2 → P x H2 → Q x H2) → t H1 Q

section
variable {ρ : Res} {α β : Type} {t : Hp → (α → Hp → Prop) → Prop} {u : α → Hp → (β → Hp → Prop) → Prop} {H H' : Hp} {P P' : α → Hp → Prop} {P2 : β → Hp → Prop}
theorem Rn.go (r : Rn ρ t H P) (w : ρ.W H) {Q : α → Hp → Prop} (k : ∀ x H2, Ks ρ.S H H2 → ρ.W H2 → P x H2 → Q x H2) : t H Q := r H .refl w Q k
theorem Rn.mono (r : Rn ρ t H P) (k : Ks ρ.S H H') : Rn ρ t H' P := fun H1 k1 w Q q => r H1 (k.trans k1) w Q q
theorem Rn.imp (r : Rn ρ t H P) (h : ∀ x H2, Ks ρ.S H H2 → ρ.W H2 → P x H2 → P' x H2) : Rn ρ t H P' := fun H1 k1 w Q q => r H1 k1 w Q fun x H2 k2 w2 p => q x H2 k2 w2 (h x H2 (k1.trans k2) w2 p)
theorem Rn.bind (r : Rn ρ t H P) (h : ∀ x H2, Ks ρ.S H H2 → ρ.W H2 → P x H2 → Rn ρ (u x) H2 P2) : Rn ρ (fun H Q => t H fun x H1 => u x H1 Q) H P2 := fun H1 k1 w Q q =>
  r H1 k1 w _ fun x H2 k2 w2 p => h x H2 (k1.trans k2) w2 p H2 .refl w2 Q fun y H3 k3 w3 p3 => q y H3 (k2.trans k3) w3 p3
theorem Rn.ret (h : ∀ H1, Ks ρ.S H H1 → ρ.W H1 → P a H1) : Rn ρ (fun H Q => Q a H) H P := fun H1 k1 w Q q => q a H1 .refl w (h H1 k1 w)
end
/-! ### what stays, of a value -/
/-- P stays under the resource -/
def Sp_ (ρ : Res) {α : Type} (P : α → Hp → Prop) : Prop := ∀ x H H', Ks ρ.S H H' → P x H → P x H'
theorem Stb.sp {ρ : Res} {α : Type} {R : Rl α} (s : Stb R) (x : α) : Sp_ ρ fun v H => R H v x := fun v H H' k h => s H H' v x k.tx h
theorem Sto.sp {α : Type} {R : Rl α} (s : Sto R) (x : α) : Sp_ pu fun v H => R H v x := fun v H H' k h => s H H' v x k h
theorem eq_sp {ρ : Res} {α : Type} (x : α) : Sp_ ρ fun v _ => v = x := fun _ _ _ _ h => h

/-! ### expressions -/
section
variable {ρ : Res} {σ : L2.St} {H : Hp} {ta tb tc te : TE} {P Pa Pb : V → Hp → Prop} {v x y : V} {r : R2}
theorem Res.ke (k : Ke H H') (w : ρ.W H) : ρ.W H' := ρ.st H H' (fun a o _ h => k.at h) k.tx k w
theorem ev_var {i : Nat} (h : σ[i]? = some (some v)) (p : ∀ H1, Ks ρ.S H H1 → ρ.W H1 → P v H1) : Rn ρ (tVar i σ) H P := fun H1 k w Q q => ⟨v, h, q v H1 .refl w (p H1 k w)⟩
/-- a name whose value is told -/
theorem ev_v {i : Nat} {α : Type} {R : Rl α} {z : α} (h : σ[i]? = some (some v)) (hr : R H v z) (s : Sp_ ρ fun v H => R H v z) : Rn ρ (tVar i σ) H fun v H => R H v z := ev_var h fun H1 k _ => s v H H1 k hr
/-- the very value -/
theorem ev_x {i : Nat} (h : σ[i]? = some (some v)) : Rn ρ (tVar i σ) H fun u _ => u = v := ev_var h fun _ _ _ => rfl
theorem ev_c (p : ∀ H1, Ks ρ.S H H1 → ρ.W H1 → P v H1) : Rn ρ (tC v σ) H P := fun H1 k w Q q => q v H1 .refl w (p H1 k w)
theorem ev_k : Rn ρ (tC v σ) H fun u _ => u = v := ev_c fun _ _ _ => rfl
theorem ev_op (ha : Rn ρ (ta σ) H Pa) (sa : Sp_ ρ Pa) (hb : Rn ρ (tb σ) H Pb) (hr : ∀ x y H2, Ks ρ.S H H2 → ρ.W H2 → Pa x H2 → Pb y H2 → Rn ρ (r x y) H2 P) : Rn ρ (tOp r ta tb σ) H P := fun H1 k w Q q =>
  ha H1 k w _ fun x H2 k2 w2 p2 => hb H2 (k.trans k2) w2 _ fun y H3 k3 w3 p3 => hr x y H3 ((k.trans k2).trans k3) w3 (sa x H2 H3 k3 p2) p3 H3 .refl w3 Q fun z H4 k4 w4 p4 => q z H4 ((k2.trans k3).trans k4) w4 p4
theorem rn_I0 {g : Int → Int → V} {i j : Int} (ex : x = .int i) (ey : y = .int j) : Rn ρ (rI0 g x y) H fun v _ => v = g i j := fun H1 k w Q q => ⟨i, j, ex, ey, q _ H1 .refl w rfl⟩
theorem rn_I {C : Int → Int → Prop} {g : Int → Int → V} {i j : Int} (ex : x = .int i) (ey : y = .int j) (c : C i j) : Rn ρ (rI C g x y) H fun v _ => v = g i j := fun H1 k w Q q => ⟨i, j, ex, ey, c, q _ H1 .refl w rfl⟩
/-- two ints -/
theorem ev_I0 {g : Int → Int → V} {i j : Int} (ha : Rn ρ (ta σ) H fun v _ => v = .int i) (hb : Rn ρ (tb σ) H fun v _ => v = .int j) : Rn ρ (tOp (rI0 g) ta tb σ) H fun v _ => v = g i j :=
  ev_op ha (eq_sp _) hb fun _ _ _ _ _ e1 e2 => rn_I0 e1 e2
theorem ev_I {C : Int → Int → Prop} {g : Int → Int → V} {i j : Int} (c : C i j) (ha : Rn ρ (ta σ) H fun v _ => v = .int i) (hb : Rn ρ (tb σ) H fun v _ => v = .int j) : Rn ρ (tOp (rI C g) ta tb σ) H fun v _ => v = g i j :=
  ev_op ha (eq_sp _) hb fun _ _ _ _ _ e1 e2 => rn_I e1 e2 c
theorem ev_un {g : Int → V} {i : Int} (ha : Rn ρ (ta σ) H fun v _ => v = .int i) : Rn ρ (tUn (rU g) ta σ) H fun v _ => v = g i := fun H1 k w Q q =>
  ha H1 k w _ fun x H2 k2 w2 e => ⟨i, e, q _ H2 k2 w2 rfl⟩
theorem ev_is {z z' : V} (h : Rn ρ (te σ) H fun v _ => v = z) (e : z = z') : Rn ρ (te σ) H fun v _ => v = z' := h.imp fun x _ _ _ p => p.trans e
/-- an item of a tuple -/
theorem ev_ixT {K : PySem.W.Frag} {α : Type} {R : Rl α} {xs : List α} {i : Int} {z : α} (ha : Rn ρ (ta σ) H fun v H => TT R H v xs) (s : Sp_ ρ fun v H => TT R H v xs) (hb : Rn ρ (tb σ) H fun v _ => v = .int i) (hi : atI xs i = some z) :
    Rn ρ (tOp (rIxT K) ta tb σ) H fun v H => R H v z := ev_op ha s hb fun x y H2 k2 w2 p e => fun H3 k3 w3 Q q => by
  obtain ⟨a, vs, ex, ha', pr⟩ := s x H2 H3 k3 p
  obtain ⟨v, hv, rv⟩ := patI pr hi
  exact ⟨a, vs, i, v, ex, e, SqT.of ha', hv, q v H3 .refl w3 rv⟩
end
end Fd
set_option Elab.async false
set_option linter.all false
set_option maxRecDepth 100000
set_option maxHeartbeats 4000000
/-! Rules that the hand layer lacks: sorted and min of data, comparisons of data, repr of data, dicts with tuple keys. -/
namespace Fd
open PySem PySem.Spec PyProof.Rows L2 PySem.W

theorem room65 {k : Nat} {A : Around} (r : Room k A) : A.units + 65 < cLine := by have := r.un; omega

section
variable {X : Cx}
/-- items that read as data, and their values -/
theorem each_of {β : Type} {R : V → β → Prop} : ∀ {vs : List V} {us : List Value} {bs : List β}, Vals vs us → Paired R vs bs → EachIs (fun u b => ∃ v, RelV v u ∧ R v b) us bs
  | _, _, _, .nil, .nil => .nil
  | _, _, _, .cons r t, .cons h q => .cons ⟨_, r, h⟩ (each_of t q)
theorem each_back {β : Type} {R : V → β → Prop} : ∀ {us : List Value} {bs : List β}, EachIs (fun u b => ∃ v, RelV v u ∧ R v b) us bs → ∃ vs, Vals vs us ∧ Paired R vs bs
  | _, _, .nil => ⟨[], .nil, .nil⟩
  | _, _, .cons ⟨v, r, h⟩ t => by
    obtain ⟨vs, q1, q2⟩ := each_back t
    exact ⟨v :: vs, .cons r q1, .cons h q2⟩
/-- what sorted asks of its items -/
structure SortOk {β : Type} (enc : β → PyData) (bs : List β) : Prop where
  al : AllAlike (bs.map enc)
  so : Sortable (bs.map enc)
  dp : ∀ b ∈ bs, (enc b).depth ≤ 60
/-- sorted(xs) of a list of data -/
def rSortD (K : Frag) : List V → Hp → VK → Prop := fun xs H Q => ∃ (a : Addr) (vs : List V) (β : Type) (R : V → β → Prop) (enc : β → PyData) (bs : List β), xs = [.ref a] ∧ SqL K H a vs ∧ Paired R vs bs ∧ (∀ v b, R v b → Dp K H v (enc b)) ∧ SortOk enc bs ∧
  ∀ p out, H p = none → Paired R out (bs.mergeSort (dataLe false enc)) → Q (.ref p) (upd H p (.lst out))
theorem cr_sortedD {k : Nat} (hr : Room k X.A) : CallR X (.builtin "sorted") (rSortD X.K) := by
  intro pins s σ H xs us Q I r h
  obtain ⟨a, vs, β, R, enc, bs, rfl, hs, pr, hd, ok, q⟩ := h
  obtain ⟨its, rv, hl, hz⟩ := I.list hs
  obtain ⟨u, rfl, ru⟩ := vals1 r
  obtain rfl : u = Value.ref a := ru
  have hlen : bs.length ≤ sizeLine := by rw [← plen pr]; exact hz
  have E := each_of rv pr
  refine sorted_data hl.isList E (E.mono fun u b ⟨v, r1, r2⟩ => Dp.reads I (enc b) v u (hd v b r2) r1) ok.al ok.so hlen (fun b hb => ?_) fun out ho eo => ?_
  · have := ok.dp b hb
    have := hr.un
    show X.A.units + 2 + _ < _
    omega
  · obtain ⟨c, hc⟩ := sortedAll_at s.heap its out.toArray
    obtain ⟨ws, w1, w2⟩ := each_back eo
    have hw : ws.length ≤ sizeLine := by rw [w1.length, ho]; exact hlen
    have ob : ObjOk X.prog X.w (upd H (s.heap.objs.size + 1) (.lst ws)) (sortedAll s.heap its out.toArray) (s.heap.objs.size + 1) (.lst ws) := ⟨hw, out, c, w1, hc⟩
    exact ⟨.ref (s.heap.objs.size + 1), _, I.laid (t' := s.toks) (fun b o e => sortedAll_old e) (Nat.le_succ _) ob, rfl, q _ ws (I.hok.fresh (Nat.le_succ _)) w2⟩

/-! ### < and >= of data -/
def rLtD (K : Frag) : R2 := fun x y H Q => ∃ d e, Dp K H x d ∧ Dp K H y e ∧ alike d e = true ∧ d ≠ .none ∧ d.depth ≤ 60 ∧ Q (.bl (dataLt d e)) H
theorem op_ltD {k : Nat} (hr : Room k X.A) : OpR X (compareOp .Lt) (rLtD X.K) := by
  intro pins s σ H x y v u Q I rx ry h
  obtain ⟨d, e, hd, he, al, nn, dp, q⟩ := h
  obtain ⟨as, r1⟩ := Dp.reads I d x v hd rx
  obtain ⟨bs, r2⟩ := Dp.reads I e y u he ry
  have hu : X.A.units + min d.depth e.depth < cLine := by have := hr.un; omega
  exact rcLt_alike d e X.A s v u as bs r1 r2 al nn hu X.prog X.w X.xe _ ⟨.bl _, H, I, rfl, q⟩

/-- x >= y: two ints, or two tuples of ints -/
def geT (ns ms : List Int) : Bool := !decide (ns < ms)
def rGeD (K : Frag) : R2 := fun x y H Q => (∃ i j, x = .int i ∧ y = .int j ∧ Q (.bl (decide (j ≤ i))) H) ∨
  ∃ a b ns ms, x = .ref a ∧ y = .ref b ∧ SqT K H a (ns.map V.int) ∧ SqT K H b (ms.map V.int) ∧ Q (.bl (geT ns ms)) H
theorem lex_shift (e r : Nat → Bool) (z : Bool) : ∀ (k i : Nat), Ob.lexAt e r z (i + 1) k = Ob.lexAt (fun j => e (j + 1)) (fun j => r (j + 1)) z i k
  | 0, _ => rfl
  | k + 1, i => by rw [Ob.lexAt_succ, Ob.lexAt_succ, lex_shift e r z k (i + 1)]
theorem lex_ge : ∀ ns ms : List Int, Ob.lexAt (fun j => decide (ns.getD j 0 = ms.getD j 0)) (fun j => decide (ms.getD j 0 ≤ ns.getD j 0)) (decide (ns.length ≥ ms.length)) 0 (min ns.length ms.length) = geT ns ms
  | [], [] => rfl
  | [], m :: ms => by
    have h : ([] : List Int) < m :: ms := List.nil_lt_cons m ms
    show decide (0 ≥ (m :: ms).length) = !decide (([] : List Int) < m :: ms)
    rw [decide_eq_true h]
    simp
  | n :: ns, [] => by
    have h : ¬ (n :: ns : List Int) < [] := List.not_lt_nil _
    show decide ((n :: ns).length ≥ 0) = !decide ((n :: ns : List Int) < [])
    rw [decide_eq_false h]
    simp
  | n :: ns, m :: ms => by
    have ih := lex_ge ns ms
    have em : min (n :: ns).length (m :: ms).length = min ns.length ms.length + 1 := by simp only [List.length_cons]; omega
    rw [em, Ob.lexAt_succ, lex_shift]
    have e1 : decide ((n :: ns).length ≥ (m :: ms).length) = decide (ns.length ≥ ms.length) := by simp
    rw [e1]
    show (if decide (n = m) = true then Ob.lexAt (fun j => decide (ns.getD j 0 = ms.getD j 0)) (fun j => decide (ms.getD j 0 ≤ ns.getD j 0)) (decide (ns.length ≥ ms.length)) 0 (min ns.length ms.length) else decide (m ≤ n)) = _
    rw [ih]
    unfold geT
    by_cases c : n = m
    · subst c
      rw [if_pos (decide_eq_true rfl)]
      congr 1
      exact decide_eq_decide.mpr (by rw [List.cons_lt_cons_iff]; constructor
                                     · intro h; exact Or.inr ⟨rfl, h⟩
                                     · rintro (h | ⟨_, h⟩)
                                       · omega
                                       · exact h)
    · rw [if_neg (by simp [c])]
      have h : (n :: ns : List Int) < m :: ms ↔ n < m := by
        rw [List.cons_lt_cons_iff]
        constructor
        · rintro (h | ⟨h, _⟩)
          · exact h
          · exact absurd h c
        · exact Or.inl
      rw [decide_eq_decide.mpr h]
      by_cases q : n < m
      · rw [decide_eq_true q, decide_eq_false (by omega)] <;> rfl
      · rw [decide_eq_false q, decide_eq_true (by omega)] <;> rfl
theorem op_geD {k : Nat} (hr : Room k X.A) : OpR X (compareOp .GtE) (rGeD X.K) := by
  intro pins s σ H x y v u Q I rx ry h
  rcases h with ⟨i, j, ex, ey, q⟩ | ⟨a, b, ns, ms, rfl, rfl, ha, hb, q⟩
  · exact op_ge pins s σ H x y v u Q I rx ry ⟨i, j, ex, ey, q⟩
  · cases rx
    cases ry
    obtain ⟨its, r1, p1, _⟩ := I.tuple ha
    obtain ⟨jts, r2, p2, _⟩ := I.tuple hb
    have i1 : IntsAre its ns := Vals.ints r1
    have i2 : IntsAre jts ms := Vals.ints r2
    have s1 : its.toArray.size = ns.length := by rw [List.size_toArray]; exact i1.length
    have s2 : jts.toArray.size = ms.length := by rw [List.size_toArray]; exact i2.length
    have a1 : ∀ j (h1 : j < its.toArray.size), ∃ t, its.toArray[j] = .int (ns.getD j 0) t := fun j h1 => IntsAre.int_at i1 _ _ (by simp at h1; simp [h1])
    have a2 : ∀ j (h1 : j < jts.toArray.size), ∃ t, jts.toArray[j] = .int (ms.getD j 0) t := fun j h1 => IntsAre.int_at i2 _ _ (by simp at h1; simp [h1])
    have G := Ob.RcOp.tuples_ge (A := X.A) (s := s) (e := fun j => decide (ns.getD j 0 = ms.getD j 0)) (r := fun j => decide (ms.getD j 0 ≤ ns.getD j 0)) p1 p2 hr.units0 (fun j h1 h2 => by
      obtain ⟨t, e1⟩ := a1 j h1
      obtain ⟨t', e2⟩ := a2 j h2
      rw [e1, e2, show decide (ns.getD j 0 = ms.getD j 0) = (ns.getD j 0 == ms.getD j 0) from by rw [Bool.beq_eq_decide_eq]]
      exact SeqAt.EqAt.int_int _ _ _ _) (fun j h1 h2 _ => by
      obtain ⟨t, e1⟩ := a1 j h1
      obtain ⟨t', e2⟩ := a2 j h2
      rw [e1, e2]
      exact Ob.RcOp.ge_int _ _ _ _)
    rw [s1, s2, lex_ge] at G
    exact G X.prog X.w X.xe (EP X pins σ Q) ⟨.bl _, H, I, rfl, q⟩

/-! ### dicts whose keys are tuples -/
/-- d.setdefault(key, x), the key a tuple -/
def tDSetdT (td ty tx : TE) : TE := fun σ H Q => td σ H fun x H1 => ∃ a, x = .ref a ∧ IsD H1 a ∧ ty σ H1 fun y H2 => tx σ H2 fun z H3 => ∃ (kvs : List (List Key × V)) (k : List Key) (b : Addr), H3 a = some (.dT kvs) ∧ y = .ref b ∧ H3 b = some (.tup (k.map kV)) ∧
  kvs.length < sizeLine ∧ (∀ v, valV kvs k = some v → Q v H3) ∧ (valV kvs k = none → Q z (upd H3 a (.dT (putK kvs k z))))
theorem d_setdT {pins : List (Addr × Obj)} {σ : L2.St} {H : Hp} {s : Shared} {a b : Addr} {r : Value} {d : V} {k : List Key} {A : Around} {E : Value → Shared → Prop} {kvs : List (List Key × V)} {Q : Value → Shared → Prop} (hu : A.units + 1 < cLine) (I : Inv X pins σ H s)
    (e : H a = some (.dT kvs)) (eb : H b = some (.tup (k.map kV))) (rd : RelV d r) (hl : kvs.length < sizeLine)
    (h1 : ∀ v, valV kvs k = some v → ∀ (w' : Value) (s' : Shared), Inv X pins σ H s' → RelV v w' → Q w' s') (h2 : valV kvs k = none → ∀ (w' : Value) (s' : Shared), Inv X pins σ (upd H a (.dT (putK kvs k d))) s' → RelV d w' → Q w' s') :
    wpAny (model X.prog X.w) A (call (.builtin "dict.setdefault") [.ref a, .ref b, r]) Q E s := by
  obtain ⟨z, hd, xs, rel, dd⟩ := dt_of I.hok e
  have hz : xs.length ≤ sizeLine := by rw [← Paired.length rel]; exact z
  have at_ := rel.val k
  refine call_setdefault_heap (hsz := hz) (tupleKind_room_in1 hu) (key_of I.hok eb) hd dd (fun p hp => ?_) fun hn h' dd' hs => ?_
  · rw [hp] at at_
    cases q0 : valV kvs k with
    | none => rw [q0] at at_; exact (show False from at_).elim
    | some v0 =>
      rw [q0] at at_
      exact h1 v0 q0 _ _ (I.tok _) at_
  · rw [hn] at at_
    cases q0 : valV kvs k with
    | some v0 => rw [q0] at at_; exact (show False from at_).elim
    | none =>
      have hl2 : (putK kvs k d).length ≤ sizeLine := by have := length_putK kvs k d; omega
      obtain ⟨q, es, ep, hq, g2, g3, g4, _, g5⟩ := dd'
      refine h2 q0 _ _ (d_write (t' := s.toks + _) I (by rw [e]; exact True.intro) hs ⟨q, hq⟩ ⟨hl2, hd, _, (rel.put k eb rd).keeps fun c ys ec => ?_, q, es, ep, hq, g2, g3, g4, g5⟩) rd
      rw [upd_ne (ne_of ec e (fun z => nomatch z))]
      exact ec
theorem pe_dsetdT {o e f : Expr} {td ty tx : TE} {apos cpos : Pos} (hu : X.A.units + 1 < cLine) (ho : PE X o td) (he : PE X e ty) (hf : PE X f tx) (m : M2 X o "setdefault" apos e f cpos) :
    PE X (.Call (.Attribute o "setdefault" apos) [e, f] [] cpos) (tDSetdT td ty tx) := by
  refine ⟨fun pins s σ H Q I h => ?_⟩
  refine wpAny_Call_method m.base m.few m.line PySem.F.plainAttrs_dict PySem.F.slot_dict_setdefault PySem.F.type_dict_setdefault (thn (ho.run pins s σ H _ I h) fun u s1 ⟨x, H1, I1, rx, a, ex, d, q1⟩ => ?_)
  subst ex
  obtain rfl : u = Value.ref a := rx
  obtain ⟨t1, t2, _⟩ := isD_at I1 d
  refine ⟨t1, t2, ?_⟩
  rw [m.trees]
  refine Calls.callWith_builtin rfl (Calls.evalArgs_plain (Calls.spliced_cons (thn (he.run pins s1 σ H1 _ I1 q1) fun iv s2 ⟨y, H2, I2, ry, q2⟩ => Calls.spliced_cons (thn (hf.run pins s2 σ H2 _ I2 q2) fun fv s3 ⟨z, H3, I3, rz, q3⟩ => Calls.spliced_nil ?_))))
  obtain ⟨kvs, k, b, ea, rfl, eb, hl, q4, q5⟩ := q3
  cases ry
  exact d_setdT hu I3 ea eb rz hl (fun v hv w' s4 I4 rw' => ⟨v, _, I4, rw', q4 v hv⟩) fun hn w' s4 I4 rw' => ⟨z, _, I4, rw', q5 hn⟩
/-! ### {(..): v}, one pair -/
def tDispT (tk tv : TE) : TE := fun σ H Q => ∀ p, H p = none → tk σ (upd H p (.dT [])) fun y H1 => tv σ H1 fun z H2 => H2 p = some (.dT []) ∧ ∃ (k : List Key) (b : Addr), y = .ref b ∧ H2 b = some (.tup (k.map kV)) ∧ Q (.ref p) (upd H2 p (.dT [(k, z)]))
theorem pe_dispT {ke ve : Expr} {pos : Pos} {tk tv : TE} (hu : X.A.units + 1 < cLine) (hk : PE X ke tk) (hv : PE X ve tv) : PE X (.Dict [some ke] [ve] pos) (tDispT tk tv) := by
  refine ⟨fun pins s σ H Q I q => ?_⟩
  have hn := I.hok.fresh (Nat.le_refl s.heap.objs.size)
  have I1 := I.laid (a := s.heap.objs.size) (o := .dT []) (h' := s.heap.push { cls := .type "dict", data := .dict #[] }) (t' := s.toks) (fun _ _ q => Heap.get?_push_of_some _ q) (Nat.le_refl _) (dt_empty s.heap I.big)
  have hp : PPs X pos [some ke] [ve] [(tk, tv)] := pps_cons hk hv pps_nil
  rw [arm_eval_Dict, zip_pairTrees [some ke] [ve] X.env pos rfl rfl, dictDisplay_pairs _ (by intro z; have := congrArg List.length z; rw [pairTrees_length _ _ _ _ rfl rfl] at this; cases this) (by rw [pairTrees_length _ _ _ _ rfl rfl]; show 1 < 17; decide)]
  refine wpAny_bind (wpAny_standAt (wpAny_bind (wpAny_subDictH (knd := tupleKind (mixKind X.prog X.w)) (Q := fun d s' => wpAny (model X.prog X.w) X.A (pure (Value.ref d)) (EP X pins σ Q) X.xe s') (show X.A.units < cLine by omega) (by rw [pairTrees_length _ _ _ _ rfl rfl]; show 1 ≤ 15; decide)
    (thn (hp.run pins _ σ _ (fun ps H2 => match ps with | [(y, z)] => H2 s.heap.objs.size = some (.dT []) ∧ ∃ (k : List Key) (b : Addr), y = .ref b ∧ H2 b = some (.tup (k.map kV)) ∧ Q (.ref s.heap.objs.size) (upd H2 s.heap.objs.size (.dT [(k, z)])) | _ => False) I1 (q _ hn)) fun ws s2 h2 => ?_))))
  obtain ⟨ps, H2, I2, rel, q2⟩ := h2
  obtain ⟨y, z, rfl, e, k, b, rfl, eb, q2⟩ : ∃ y z, ps = [(y, z)] ∧ H2 s.heap.objs.size = some (.dT []) ∧ ∃ (k : List Key) (b : Addr), y = .ref b ∧ H2 b = some (.tup (k.map kV)) ∧ Q (.ref s.heap.objs.size) (upd H2 s.heap.objs.size (.dT [(k, z)])) := by
    match ps, q2 with
    | [(y, z)], q2 => exact ⟨y, z, rfl, q2⟩
  cases rel with
  | @cons _ r _ _ h t =>
    cases t
    obtain ⟨r1, r2⟩ := r
    obtain ⟨h1, h2⟩ := h
    have h1' : r1 = Value.ref b := h1
    subst h1'
    obtain ⟨z0, hd, xs0, r0, dd⟩ := dt_of I2.hok e
    cases r0
    have ndb : b ≠ s.heap.objs.size := ne_of eb e (fun z => nomatch z)
    refine ⟨[(k, b, r2)], ⟨rfl, rfl, key_of I2.hok eb, trivial⟩, dd, fun h' tk dd' hs => wpAny_pure ⟨.ref s.heap.objs.size, upd H2 s.heap.objs.size (.dT [(k, z)]), ?_, rfl, q2⟩⟩
    have e1 : storedAllH ([] : List (List Key × Addr × Value)) [(k, b, r2)] = [(k, b, r2)] := rfl
    rw [e1] at dd'
    obtain ⟨o, es, ep, g1, g2, g3, g4, g5, g6⟩ := dd'
    exact d_write (t' := tk) I2 (by rw [e]; exact True.intro) hs ⟨o, g1⟩ ⟨by show 1 ≤ sizeLine; decide, hd, [(k, b, r2)], .cons ⟨rfl, by rw [upd_ne ndb]; exact eb, h2⟩ .nil, o, es, ep, g1, g2, g3, g4, g6⟩
/-! ### for k, v in d.items(), the keys tuples -/
theorem frzV {pins : List (Addr × Obj)} {σ : L2.St} {H : Hp} {s : Shared} {d : Addr} {o : Obj} {kvs : List (List Key × V)} (I : Inv X pins σ H s) (h : H d = some (.frz o (.dT kvs))) : (d == sysModules) = false ∧ ∃ es ep, s.heap.DictRaw d es ep ∧ o.data = .dict es ep ∧ es.size = kvs.length ∧
    ∀ (i : Nat) (k : List Key) (v : V), kvs[i]? = some (k, v) → ∃ (en : DictEntry) (q : Addr), es[i]? = some en ∧ en.key = .ref q ∧ H q = some (.tup (k.map kV)) ∧ RelV v en.val := by
  obtain ⟨hd, z, hs, xs, pr, o', es, ep, ho, hx, hdt, he, _⟩ := I.hok d _ h
  rw [hd] at ho
  cases ho
  refine ⟨hs, es, ep, ⟨o, hd, hx, hdt⟩, hdt, ?_, fun i k v e => ?_⟩
  · have l1 : es.size = xs.length := size_of_entries he
    have l2 : kvs.length = xs.length := Paired.length pr
    omega
  · obtain ⟨b, hb, e1, e2, e3⟩ := paired_get pr e
    have q := entry_at he i
    rw [hb] at q
    exact ⟨_, b.2.1, q, rfl, e2, e3⟩
/-- the pairs of the locked dict at d, in their order: a new pair of the key's own tuple and the value -/
def ItiT (d : Addr) (o : Obj) (kvs : List (List Key × V)) : It :=
  ⟨fun i H => H d = some (.frz o (.dT kvs)) ∧ i < kvs.length, fun i H x H' => ∃ (t : Addr) (k : List Key) (v : V) (q : Addr), kvs[i]? = some (k, v) ∧ H q = some (.tup (k.map kV)) ∧ x = .ref t ∧ H t = none ∧ H' = upd H t (.tup [.ref q, v]), fun i H => H d = some (.frz o (.dT kvs)) ∧ kvs.length ≤ i⟩
theorem turn_itemsT {P : Program} {w : World} {d : Addr} {o : Obj} {es : Array DictEntry} {ep : Nat} {kvs : List (List Key × V)} {elts : List Expr} {kk : Nat} {tpos : Pos} {K : Frag} (it : Addr) (hod : o.data = .dict es ep) (hsz : es.size = kvs.length) :
    Turn P w K (.Tuple elts kk tpos) (ItiT d o kvs) [it] it (fun i h => ∃ ok ov, IsItemIter h it d i es.size ep ok ov) where
  mem := by simp
  obj := fun i h st b hb => by
    have e : b = it := by simpa using hb
    subst e
    obtain ⟨ok, ov, e⟩ := st
    exact ⟨_, e, fun v z => nomatch z⟩
  keep := fun i h h' st k => let ⟨ok, ov, e⟩ := st; ⟨ok, ov, k it (by simp) _ e⟩
  item := by
    intro X hP hw hK hc i pins s σ H E I hf st hg
    subst hP hw hK
    obtain ⟨hd, hi⟩ := hg
    obtain ⟨hs, es', ep', hm, hdt, hz, ent⟩ := frzV I hd
    obtain ⟨rfl, rfl⟩ := dict_ep hod hdt
    obtain ⟨⟨k, v⟩, hkv⟩ : ∃ p, kvs[i]? = some p := ⟨kvs[i], List.getElem?_eq_getElem hi⟩
    obtain ⟨en, q, hen, hkey, hq, rv⟩ := ent i k v hkv
    obtain ⟨ok, ov, he⟩ := st
    have hlt : it < s.heap.objs.size := Heap.lt_size he
    have hie : i < es'.size := by omega
    have een : es'[i] = en := by rw [Array.getElem?_eq_getElem hie] at hen; exact Option.some.inj hen
    refine wpAny_pyNext_items_item_raw he hm hie fun h' ho hT hz hk => ?_
    rw [een, hkey] at ho hT
    refine ⟨_, rfl, wpAny_letOwnedTupleGo_items (s := { s with heap := h' }) ho fun h'' he' sb => ?_⟩
    have hT2 : h''.get? s.heap.objs.size = some { cls := .type "tuple", data := .seq #[.ref q, en.val] } := (sb.2 _ (Nat.ne_of_gt hlt)).trans hT
    have new : ObjOk X.prog X.w (upd H s.heap.objs.size (.tup [.ref q, v])) h'' s.heap.objs.size (.tup [.ref q, v]) :=
      ⟨by show 2 ≤ sizeLine; decide, [.ref q, en.val], .cons rfl (.cons rv .nil), ⟨_, hT2, rfl, _, rfl⟩⟩
    have I1 : Inv X pins σ (upd H s.heap.objs.size (.tup [.ref q, v])) { s with heap := h'' } :=
      I.turnedNew (t' := s.toks) (ch := [it]) (fun b ob hb e => (sb.2 b (by simpa using hb)).trans (hk b ob (by simpa using hb) e)) hf (Nat.le_refl _) new
    refine ⟨.ref s.heap.objs.size, _, I1, rfl, ⟨_, k, v, q, hkv, hq, rfl, I.hok.fresh (Nat.le_refl _), rfl⟩, ⟨_, _, he'⟩, fun b hb => ?_⟩
    have e : b = it := by simpa using hb
    rw [e, upd_ne (Nat.ne_of_lt hlt)]
    exact (hf it (by simp)).1
  done := by
    intro X hP hw hK hc i pins s σ H E I hf st hg
    subst hP hw hK
    obtain ⟨hd, hi⟩ := hg
    obtain ⟨f0, f1, f2, f3, f4, f5⟩ := hf it (by simp)
    obtain ⟨hs, es', ep', hm, hdt, hz, ent⟩ := frzV I hd
    obtain ⟨rfl, rfl⟩ := dict_ep hod hdt
    obtain ⟨ok, ov, he⟩ := st
    exact wpAny_pyNext_items_end_raw (I.ok.hd hc) he hm (by omega) fun h' eb => ⟨rfl, I.turned (t' := s.toks) (fun b ob hb e => eb b ob hb e) f0 f1 f3 f4 f5⟩
  self := fun A i s Q E st h => let ⟨_, _, e⟩ := st; kcp_self e h
def iItemsT (td : TE) : L2.TI := fun σ H R => td σ H fun x H1 => ∃ d o kvs, x = .ref d ∧ H1 d = some (.frz o (.dT kvs)) ∧ R (ItiT d o kvs) H1
theorem pi_itemsT {e : Expr} {td : TE} {apos cpos : Pos} {elts : List Expr} {kk : Nat} {tpos : Pos} (he : PE X e td) (hbase : attributeBase e "items" X.env (eval e X.env) = eval e X.env := by rfl) (hline : (apos.endLine == cpos.line) = true := by rfl) :
    PI X (.Tuple elts kk tpos) (.Call (.Attribute e "items" apos) [] [] cpos) (iItemsT td) := by
  refine ⟨fun pins s σ H R I h => ?_⟩
  refine wpAny_Call_method (T := "dict") (id := "dict.items") hbase rfl hline F.plainAttrs_dict F.slot_dict_items F.type_dict_items (thn (he.run pins s σ H _ I h) fun u s1 ⟨x, H1, I1, rx, d, o, kvs, ex, hd, q⟩ => ?_)
  subst ex
  obtain rfl : u = Value.ref d := rx
  obtain ⟨hs, es, ep, hm, hdt, hz, ent⟩ := frzV I1 hd
  refine ⟨hm.typeIs, (isD_at I1 (.inr ⟨kvs, .inr ⟨o, hd⟩⟩)).2.1, ?_⟩
  have I2 : Inv X pins σ H1 { s1 with heap := s1.heap.push { cls := .type "dict_items", data := .fields #[.ref d] } } := I1.kept (t' := s1.toks) fun b ob q => Heap.get?_push_of_some _ q
  have hm2 : (s1.heap.push { cls := .type "dict_items", data := .fields #[.ref d] }).DictRaw d es ep := hm.at fun o q => Heap.get?_push_of_some _ q
  have fin : wpAny (model X.prog X.w) X.A (pyIter (.ref s1.heap.objs.size)) (PIE X pins σ (.Tuple elts kk tpos) R) X.xe { s1 with heap := s1.heap.push { cls := .type "dict_items", data := .fields #[.ref d] } } := by
    refine wpAny_pyIter_items_raw (d := d) ⟨_, Heap.get?_push_size _ rfl, rfl, rfl⟩ hm2 (pi_one (tk := s1.toks) I2 _ (turn_itemsT _ hdt hz) ⟨.none, .none, Heap.get?_push_size _ rfl⟩ q)
  show wpAny _ _ (callWith cpos (.builtin "dict.items") [.ref d] [] []) _ X.xe s1
  exact method_meetsIn F.slot_dict_items F.entry_dict_items rfl (PySem.evalArgs_none ⟨rfl, hm.typeIs, F.args_dict_items_1 _, _, meets_dict_items_raw d hs, ⟨es, ep, hm⟩, fin⟩)
/-! ### rules within a comprehension: the written part is named, not taken from the context -/
theorem lenK (K : Frag) (h : X.K = K) : CallR X (.builtin "len") (fun xs H Q => ∃ x n, xs = [x] ∧ LenV K x H n ∧ Q (.int n) H) := by rw [← h]; exact call_len
theorem ix_tupK (K : Frag) (h : X.K = K) : IxR X (rIxT K) := by rw [← h]; exact ix_tup
theorem ix_listK (K : Frag) (h : X.K = K) : IxR X (rIxL K) := by rw [← h]; exact ix_list
theorem op_catAK (K : Frag) (h : X.K = K) : OpR X (binaryOp .Add) (rCatA K) := by rw [← h]; exact op_catA
theorem mt_indexDK (K : Frag) (h : X.K = K) (hu : X.A.units + 65 < cLine) : MtR X "list.index" (rIndexD K) := by rw [← h]; exact mt_indexD hu
theorem pi_tupK (K : Frag) (h : X.K = K) {tg iter : Expr} {tl : TE} (ha : PE X iter tl) : PI X tg iter (iTup K tl) := by rw [← h]; exact pi_tup ha
theorem pi_listK (K : Frag) (h : X.K = K) {tg iter : Expr} {tl : TE} (ha : PE X iter tl) : PI X tg iter (iList K tl) := by rw [← h]; exact pi_list ha
theorem pe_fldK (K : Frag) (h : X.K = K) {e : Expr} {f : Str} {pos : Pos} {ta : TE} (he : PE X e ta) (hb : attributeBase e f X.env (eval e X.env) = eval e X.env) : PE X (.Attribute e f pos) (tFld K ta f) := by rw [← h]; exact pe_fld he hb
end
end Fd
set_option Elab.async false
set_option linter.all false
set_option maxRecDepth 100000
set_option maxHeartbeats 4000000
/-! Plain lists: sorted without doubles; rows by number. -/
namespace Fd
def uins (x : Int) : List Int → List Int
  | [] => [x]
  | y :: r => if x < y then x :: y :: r else if x = y then y :: r else y :: uins x r
def usort (xs : List Int) : List Int := xs.foldr uins []
theorem mem_uins {x z : Int} : ∀ {l : List Int}, z ∈ uins x l ↔ z = x ∨ z ∈ l
  | [] => by simp [uins]
  | y :: r => by
    unfold uins
    by_cases h1 : x < y
    · rw [if_pos h1]; simp
    · rw [if_neg h1]
      by_cases h2 : x = y
      · rw [if_pos h2, h2]; simp
      · rw [if_neg h2, List.mem_cons, mem_uins (l := r), List.mem_cons]
        constructor
        · rintro (h | h | h)
          · exact .inr (.inl h)
          · exact .inl h
          · exact .inr (.inr h)
        · rintro (h | h | h)
          · exact .inr (.inl h)
          · exact .inl h
          · exact .inr (.inr h)
theorem sorted_uins {x : Int} : ∀ {l : List Int}, l.Pairwise (· < ·) → (uins x l).Pairwise (· < ·)
  | [], _ => by simp [uins]
  | y :: r, h => by
    obtain ⟨h0, hr⟩ := List.pairwise_cons.mp h
    unfold uins
    by_cases h1 : x < y
    · rw [if_pos h1]
      refine List.pairwise_cons.mpr ⟨fun z hz => ?_, h⟩
      rcases List.mem_cons.mp hz with q | q
      · rw [q]; exact h1
      · exact Int.lt_trans h1 (h0 z q)
    · rw [if_neg h1]
      by_cases h2 : x = y
      · rw [if_pos h2]; exact h
      · rw [if_neg h2]
        refine List.pairwise_cons.mpr ⟨fun z hz => ?_, sorted_uins hr⟩
        rcases mem_uins.mp hz with q | q
        · rw [q]; omega
        · exact h0 z q
theorem mem_usort {z : Int} : ∀ {l : List Int}, z ∈ usort l ↔ z ∈ l
  | [] => by simp [usort]
  | x :: r => by
    show z ∈ uins x (usort r) ↔ _
    rw [mem_uins, mem_usort (l := r), List.mem_cons]
theorem sorted_usort : ∀ l : List Int, (usort l).Pairwise (· < ·)
  | [] => .nil
  | x :: r => sorted_uins (sorted_usort r)
theorem sorted_uniq : ∀ {a b : List Int}, a.Pairwise (· < ·) → b.Pairwise (· < ·) → (∀ x, x ∈ a ↔ x ∈ b) → a = b
  | [], [], _, _, _ => rfl
  | [], y :: r, _, _, h => by have := (h y).mpr (by simp); cases this
  | x :: r, [], _, _, h => by have := (h x).mp (by simp); cases this
  | x :: r, y :: s, h1, h2, h => by
    obtain ⟨p1, q1⟩ := List.pairwise_cons.mp h1
    obtain ⟨p2, q2⟩ := List.pairwise_cons.mp h2
    have e : x = y := by
      rcases List.mem_cons.mp ((h x).mp (by simp)) with z | z
      · exact z
      · rcases List.mem_cons.mp ((h y).mpr (by simp)) with z' | z'
        · exact z'.symm
        · have := p2 x z; have := p1 y z'; omega
    subst e
    rw [sorted_uniq q1 q2 fun z => ?_]
    constructor
    · intro hz
      rcases List.mem_cons.mp ((h z).mp (by simp [hz])) with q | q
      · have := p1 z hz; omega
      · exact q
    · intro hz
      rcases List.mem_cons.mp ((h z).mpr (by simp [hz])) with q | q
      · have := p2 z hz; omega
      · exact q
theorem sorted_lt {ys : List Int} (h : ys.Pairwise (· ≤ ·)) (n : ys.Nodup) : ys.Pairwise (· < ·) := by
  refine (h.and n).imp fun {a b} q => ?_
  have := q.1; have := q.2; omega
/-- sorted of the keys that were met -/
theorem usort_of {ys ks xs : List Int} (hp : ys.Perm ks) (hs : ys.Pairwise (· ≤ ·)) (hn : ks.Nodup) (hm : ∀ x, x ∈ ks ↔ x ∈ xs) : ys = usort xs :=
  sorted_uniq (sorted_lt hs (hp.nodup_iff.mpr hn)) (sorted_usort _) fun x => by rw [mem_usort, ← hm, hp.mem_iff]
theorem len_sub {α : Type} [DecidableEq α] : ∀ {a b : List α}, a.Nodup → (∀ x ∈ a, x ∈ b) → a.length ≤ b.length
  | [], _, _, _ => Nat.zero_le _
  | x :: r, b, h, s => by
    obtain ⟨h1, h2⟩ := List.nodup_cons.mp h
    have hx : x ∈ b := s x (by simp)
    have := len_sub (b := b.erase x) h2 fun y hy => (List.mem_erase_of_ne (fun e => h1 (by rw [← e]; exact hy))).mpr (s y (by simp [hy]))
    have e := List.length_erase_of_mem hx
    have := List.length_pos_of_mem hx
    simp only [List.length_cons]; omega
/-- a strictly ascending list of small numbers is short -/
theorem short_of {ks : List Int} {n : Nat} (hn : ks.Nodup) (h : ∀ k ∈ ks, 0 ≤ k ∧ k < n) : ks.length ≤ n := by
  have h1 : (ks.map Int.toNat).Nodup := by
    rw [List.nodup_iff_pairwise_ne, List.pairwise_map]
    refine (List.Pairwise.and_mem.mp (List.nodup_iff_pairwise_ne.mp hn)).imp fun {a b} q => ?_
    have := h a q.1; have := h b q.2.1; have := q.2.2; omega
  have h2 : (ks.map Int.toNat) ⊆ List.range n := fun x hx => by
    obtain ⟨k, hk, rfl⟩ := List.mem_map.mp hx
    have := h k hk
    exact List.mem_range.mpr (by omega)
  have := len_sub h1 fun x hx => h2 hx
  simpa using this
def addk {α : Type} [DecidableEq α] (ks : List α) (g : α) : List α := if g ∈ ks then ks else ks ++ [g]
section
variable {α : Type} [DecidableEq α] {ks : List α} {g : α}
theorem addk_nodup (h : ks.Nodup) : (addk ks g).Nodup := by
  unfold addk
  by_cases c : g ∈ ks
  · rw [if_pos c]; exact h
  · rw [if_neg c]; exact L2.nd_snoc h c
theorem mem_addk {x : α} : x ∈ addk ks g ↔ x ∈ ks ∨ x = g := by
  unfold addk
  by_cases c : g ∈ ks
  · rw [if_pos c]
    exact ⟨.inl, fun h => h.elim id fun e => by rw [e]; exact c⟩
  · rw [if_neg c]; simp
theorem keys_put {κ : Type} [DecidableEq κ] (f : α → κ) (hf : ∀ a b, f a = f b → a = b) {kvs : List (κ × L2.V)} {v : L2.V} (h : kvs.map (·.1) = ks.map f) : (L2.putK kvs (f g) v).map (·.1) = (addk ks g).map f := by
  unfold L2.putK addk
  by_cases c : g ∈ ks
  · have q : (kvs.any fun kv => decide (kv.1 = f g)) = true := by
      have : f g ∈ kvs.map (·.1) := by rw [h]; exact List.mem_map_of_mem c
      obtain ⟨p, hp, e⟩ := List.mem_map.mp this
      exact List.any_eq_true.mpr ⟨p, hp, decide_eq_true e⟩
    rw [if_pos q, if_pos c, ← h, List.map_map]
    apply List.map_congr_left
    intro p hp
    show (if p.1 = f g then (p.1, v) else p).1 = p.1
    split <;> rfl
  · have q : ¬ (kvs.any fun kv => decide (kv.1 = f g)) = true := fun q => by
      obtain ⟨p, hp, e⟩ := List.any_eq_true.mp q
      have : f g ∈ kvs.map (·.1) := by rw [← of_decide_eq_true e]; exact List.mem_map_of_mem hp
      rw [h] at this
      obtain ⟨x, hx, e⟩ := List.mem_map.mp this
      rw [hf _ _ e] at hx
      exact c hx
    rw [if_neg q, if_neg c, List.map_append, List.map_append, h]
    rfl
end
def at0 {α : Type} (xs : List (List α)) (i : Int) : List α := (xs[i.toNat]?).getD []
theorem at0_of {α : Type} {xs : List (List α)} {i : Int} {r : List α} (h : xs[i.toNat]? = some r) : at0 xs i = r := by unfold at0; rw [h]; rfl
def ran (n : Int) : List Int := (List.range n.toNat).map Int.ofNat
theorem mem_ran {n x : Int} : x ∈ ran n ↔ 0 ≤ x ∧ x < n := by
  unfold ran
  rw [List.mem_map]
  constructor
  · rintro ⟨a, h, rfl⟩
    have := List.mem_range.mp h
    simp only [Int.ofNat_eq_natCast]; omega
  · intro h
    exact ⟨x.toNat, List.mem_range.mpr (by omega), by simp only [Int.ofNat_eq_natCast]; omega⟩
/-- an office's data: sizes, moves, closings -/
structure Ofc where
  sz : List Int
  mv : List (List (List Int))
  cl : List (List Int)
/-- the goals of standings by a step -/
def goalsM (o : Ofc) (ss st : List Int) : List Int := usort (ss.flatMap fun s => (at0 o.mv s).filterMap fun m => if m.take 3 = st then m[3]? else none)
def lastsM (o : Ofc) (ss : List Int) : List Int := usort (ss.flatMap fun s => at0 o.cl s)
def stepsM (a b c : Int) : List (List Int) := ((ran a).flatMap fun s => (ran b).map fun n => [s, n]).flatMap fun x => (ran c).map fun k => x ++ [k]
end Fd
set_option Elab.async false
set_option linter.all false
set_option maxRecDepth 100000
set_option maxHeartbeats 4000000
/-! Sorted lists of tuples, of pairs of tuples, of ints. -/
namespace Fd
open PySem PySem.Spec PyProof.Rows L2 PySem.W
def encP (x : List Int × List Int) : PyData := .tuple [tI x.1, tI x.2]
noncomputable def sortT (bs : List (List Int)) : List (List Int) := bs.mergeSort (dataLe false tI)
noncomputable def sortP (bs : List (List Int × List Int)) : List (List Int × List Int) := bs.mergeSort (dataLe false encP)
noncomputable def sortI (bs : List Int) : List Int := bs.mergeSort (dataLe false PyData.int)
theorem le_tI : dataLe false tI = fun p q => decide (p ≤ q) := by
  have h := dataLe_rows (β := List Int) id
  funext p q
  exact congrFun (congrFun h p) q
theorem le_int : dataLe false PyData.int = fun p q => decide (p ≤ q) := dataLe_int (β := Int) id
theorem mem_sortT {bs : List (List Int)} {x : List Int} : x ∈ sortT bs ↔ x ∈ bs := (List.mergeSort_perm bs _).mem_iff
theorem mem_sortP {bs : List (List Int × List Int)} {x : List Int × List Int} : x ∈ sortP bs ↔ x ∈ bs := (List.mergeSort_perm bs _).mem_iff
theorem mem_sortI {bs : List Int} {x : Int} : x ∈ sortI bs ↔ x ∈ bs := (List.mergeSort_perm bs _).mem_iff
theorem len_sortT {bs : List (List Int)} : (sortT bs).length = bs.length := (List.mergeSort_perm bs _).length_eq
theorem len_sortP {bs : List (List Int × List Int)} : (sortP bs).length = bs.length := (List.mergeSort_perm bs _).length_eq
theorem len_sortI {bs : List Int} : (sortI bs).length = bs.length := (List.mergeSort_perm bs _).length_eq
theorem sorted_sortT (bs : List (List Int)) : (sortT bs).Pairwise (· ≤ ·) := by
  unfold sortT
  rw [le_tI]
  have h := List.pairwise_mergeSort (le := fun (p q : List Int) => decide (p ≤ q)) (fun a b c h1 h2 => by
    have h1' : a ≤ b := of_decide_eq_true h1
    have h2' : b ≤ c := of_decide_eq_true h2
    exact decide_eq_true (List.le_trans h1' h2')) (fun a b => by
    rcases List.le_total a b with h | h
    · simp [h]
    · simp [h]) bs
  exact h.imp fun q => of_decide_eq_true q
/-- without doubles the order is strict -/
theorem strict_sortT {bs : List (List Int)} (h : bs.Nodup) : (sortT bs).Pairwise (· < ·) := by
  have n : (sortT bs).Nodup := (List.mergeSort_perm bs _).nodup_iff.mpr h
  refine ((sorted_sortT bs).and n).imp fun {a b} q => ?_
  rcases List.le_iff_lt_or_eq.mp q.1 with z | z
  · exact z
  · exact absurd z q.2
theorem ok_T {bs : List (List Int)} (h : ∀ b ∈ bs, b ≠ []) : SortOk tI bs where
  al := AllAlike.of fun b b' => by
    show alike (.tuple (b.map .int)) (.tuple (b'.map .int)) = true
    rw [alike]; exact alike_ints b b'
  so := .inl fun d hd => by
    obtain ⟨b, hb, rfl⟩ := List.mem_map.mp hd
    match b, h b hb with
    | x :: r, _ => exact ⟨_, _, rfl⟩
  dp := fun b _ => by
    show PyData.depth (.tuple (b.map .int)) ≤ 60
    rw [PyData.depth, depth_ints]; decide
theorem ok_I {bs : List Int} : SortOk PyData.int bs where
  al := AllAlike.of fun b b' => by simp [alike]
  so := Sortable.others fun b => ⟨(fun z => nomatch z), (fun _ z => nomatch z)⟩
  dp := fun b _ => by simp [PyData.depth]
theorem ok_P {bs : List (List Int × List Int)} : SortOk encP bs where
  al := AllAlike.of fun b b' => by
    show alike (.tuple [.tuple (b.1.map .int), .tuple (b.2.map .int)]) (.tuple [.tuple (b'.1.map .int), .tuple (b'.2.map .int)]) = true
    rw [alike, alikeAll, alikeAll, alike, alike, alike_ints, alike_ints]
    simp [alikeAll]
  so := Sortable.tuples fun b => ⟨_, _, rfl⟩
  dp := fun b _ => by
    show PyData.depth (.tuple [.tuple (b.1.map .int), .tuple (b.2.map .int)]) ≤ 60
    simp [PyData.depth, PyData.depthAll, depth_ints]
end Fd
set_option Elab.async false
set_option linter.all false
set_option maxRecDepth 100000
set_option maxHeartbeats 4000000
/-! sorted of a dict with tuple keys; what is never called; min of data; repr of data. -/
namespace Fd
open PySem PySem.Spec PyProof.Rows L2 PySem.W
section
variable {X : Cx}
/-- sorted(d), the keys tuples of ints -/
def rSortDT : List V → Hp → VK → Prop := fun xs H Q => ∃ (a : Addr) (kvs : List (List Key × V)) (ks : List (List Int)), xs = [.ref a] ∧ Rd H a (.dT kvs) ∧ kvs.map (·.1) = ks.map (fun k => k.map Sum.inl) ∧ (∀ k ∈ ks, k ≠ []) ∧
  ∀ p out, H p = none → Paired (TI H) out (sortT ks) → Q (.ref p) (upd H p (.lst out))
theorem isKeys_TI {H : Hp} : ∀ {kvs : List (List Key × V)} {ks : List (List Int)} {bs : List Addr}, IsKeys H kvs bs → kvs.map (·.1) = ks.map (fun k => k.map Sum.inl) → Paired (TI H) (bs.map V.ref) ks
  | [], [], _, .nil, _ => .nil
  | [], _ :: _, _, _, e => by simp at e
  | _ :: _, [], _, _, e => by simp at e
  | p :: kvs, k :: ks, _, .cons h t, e => by
    simp only [List.map_cons, List.cons.injEq] at e
    refine .cons ⟨_, rfl, ?_⟩ (isKeys_TI t e.2)
    rw [h, e.1, List.map_map]
    rfl
theorem cr_sortedDT {k : Nat} (hcalm : X.calm = true) (hr : Room k X.A) : CallR X (.builtin "sorted") rSortDT := by
  intro pins s σ H xs us Q I r h
  obtain ⟨d, kvs, nk, rfl, hd, ek, hne, q⟩ := h
  obtain ⟨u, rfl, rx⟩ := r.one
  cases rx
  obtain ⟨z, hs, ks, pr, o, es, ep, ho, hx, hdt, he, hn⟩ := (show ObjOk X.prog X.w H s.heap d (.dT kvs) from hd.ok I.hok)
  have l1 : es.size = ks.length := size_of_entries he
  have l2 : kvs.length = ks.length := Paired.length pr
  have l3 : kvs.length = nk.length := by have := congrArg List.length ek; simpa using this
  refine Calls.call_function_entry PyProof.Rows.kind_sorted PyProof.Rows.plain_sorted PyProof.Rows.entry_sorted (PyProof.Rows.args_sorted1 _) ?_
  unfold Builtin.«sorted»
  refine wpAny_bind (m := checkCount "sorted" 1 1 _) (wpAny_pure ?_)
  refine wpAny_bind (kdu_collect (A := X.A.in1) (kdl_raw hs hx hdt) (I.ok.hd hcalm) ho (by omega) fun h' tk acc hk it => ?_)
  have eb : acc.toList = (ks.map fun x => x.2.1).map Value.ref := by
    have hl : acc.toList.length = ks.length := by rw [Array.length_toList, it.1]; exact l1
    apply List.ext_getElem?
    intro j
    rw [List.map_map, List.getElem?_map]
    cases hj : acc.toList[j]? with
    | none =>
      have h1 := List.getElem?_eq_none_iff.mp hj
      rw [List.getElem?_eq_none (by omega)]
      all_goals rfl
    | some v =>
      obtain ⟨en, hen, hv⟩ := it.2 j v (by rw [← Array.getElem?_toList]; exact hj)
      have qe := entry_at he j
      rw [hen] at qe
      cases hb : ks[j]? with
      | none =>
        rw [hb] at qe
        exact nomatch (show some en = none from qe)
      | some b =>
        rw [hb] at qe
        have e2 : en = entryOfKey (tupleKind (mixKind X.prog X.w)) b := Option.some.inj qe
        rw [hv, e2]
        all_goals rfl
  have rv : Vals ((ks.map fun x => x.2.1).map V.ref) acc.toList := by rw [eb]; exact vals_refs _
  have pt : Paired (TI H) ((ks.map fun x => x.2.1).map V.ref) nk := isKeys_TI (isKeys_of pr) ek
  have hal : acc.toList.length = nk.length := by rw [← rv.length, plen pt]
  have hL : acc.toList.length ≤ sizeLine := by omega
  have I1 : Inv X pins σ H { s with heap := h', toks := tk } := I.kept hk
  refine wpAny_bind (wpAny_newList ?_ hL)
  have hoL : (h'.push (seqObj "list" acc.toList.toArray 0)).get? h'.objs.size = some (seqObj "list" acc.toList.toArray 0) := Heap.get?_push_size _ rfl
  show wpAny _ _ _ _ _ { s with heap := h'.push (seqObj "list" acc.toList.toArray 0), toks := tk }
  have ok := ok_T hne
  have E := each_of rv pt
  have old : ∀ {b : Addr} {ob : Obj}, h'.get? b = some ob → (sortingHeap (h'.push (seqObj "list" acc.toList.toArray 0)) h'.objs.size acc.toList).get? b = some ob := fun {b ob} e =>
    sortingHeap_old (Nat.ne_of_lt (Heap.lt_size e)) (Heap.get?_push_of_some _ e)
  have er : EachIs (fun v b => ∃ as, Reads (sortingHeap (h'.push (seqObj "list" acc.toList.toArray 0)) h'.objs.size acc.toList) v (tI b) as) acc.toList nk := E.mono fun u b ⟨v, r1, r2⟩ => by
    obtain ⟨as, r⟩ := Dp.reads I1 (tI b) v u (TI.enc X.K H v b r2) r1
    exact ⟨as, PyProof.Rows.Reads.keeps (fun _ _ => old) r⟩
  have hu : ∀ b, b ∈ nk → X.A.in1.in1.units + (tI b).depth < cLine := fun b hb => by
    have h1 := ok.dp b hb
    have h2 := hr.un
    show X.A.units + 2 + _ < _
    omega
  refine wpAny_bind (wpAny_holding (wpAny_call_entry PyProof.Rows.slot_list_sort ⟨_, hoL, rfl⟩ PyProof.Rows.entry_list_sort
    (list_sort_vals (s := { s with heap := h'.push (seqObj "list" acc.toList.toArray 0), toks := tk }) hoL
      (SortsAt.data (s := { s with heap := sortingHeap (h'.push (seqObj "list" acc.toList.toArray 0)) h'.objs.size acc.toList, toks := tk }) (each_map (R := fun v d => ∃ as, Reads (sortingHeap (h'.push (seqObj "list" acc.toList.toArray 0)) h'.objs.size acc.toList) v d as) tI er) ok.al ok.so (bound_map hu)) hL ⟨_, rfl, ?_⟩) (PyProof.Rows.args_list_sort _)))
  have eo := sortVals_data (R := fun u b => ∃ v, RelV v u ∧ TI H v b) false E er ok.al
  generalize hout : sortVals _ false acc.toList acc.toList = out at eo ⊢
  obtain ⟨ws, w1, w2⟩ := each_back eo
  obtain ⟨e', he'⟩ := PyProof.Rows.sortedHeap_at (vs := acc.toList) (out := out.toArray) hoL
  have hlen : ws.length ≤ sizeLine := by
    rw [plen w2]
    have := len_sortT (bs := nk)
    unfold sortT at this
    omega
  refine wpAny_pure ⟨_, rfl, .ref h'.objs.size, upd H h'.objs.size (.lst ws), I1.laid (t' := tk) (fun b u e => ?_) (Nat.le_refl _)
    (show ObjOk X.prog X.w _ _ _ (.lst ws) from ⟨hlen, out, e', w1, he'⟩), rfl, q _ ws (I1.hok.fresh (Nat.le_refl _)) w2⟩
  have hb : b < h'.objs.size := Heap.lt_size e
  rw [PyProof.Rows.sortedHeap_old (Nat.ne_of_lt hb) (by rw [size_push']; exact Nat.lt_succ_of_lt hb)]
  exact Heap.get?_push_of_some _ e
/-- a tuple of targets within a comprehension -/
theorem pg_tupK (K : Frag) (hK : X.K = K) {es : List Expr} {k : Nat} {pos : Pos} {t : TGs} {n : Nat} (hc : X.calm = true) (h : PGs X es t)
    (hn : (assignEach es X.env).length = n := by rfl) (hst : (assignEach es X.env).findIdx? (·.1) = none := by rfl) : PG X (.Tuple es k pos) (gTup K n t) := by
  rw [← hK]; exact pg_tup hc h hn hst
/-- a built-in's method within a comprehension -/
theorem pe_bmK (K : Frag) (hK : X.K = K) {name : Str} {r : V → List V → Hp → VK → Prop} {o e : Expr} {es : List Expr} {apos cpos : Pos} {to : TE} {t : TA} {T : String} (h : PE X (.Call (.Attribute o name apos) (e :: es) [] cpos) (tBM X.K T r to t)) :
    PE X (.Call (.Attribute o name apos) (e :: es) [] cpos) (tBM K T r to t) := by rw [← hK]; exact h
theorem op_in_seqK (K : Frag) (h : X.K = K) : OpR X (compareOp .In) (rIn K false) := by rw [← h]; exact op_in_seq
theorem op_notIn_seqK (K : Frag) (h : X.K = K) : OpR X (compareOp .NotIn) (rIn K true) := by rw [← h]; exact op_notIn_seq
theorem sl_tupAK (K : Frag) (h : X.K = K) : SlR X (rSlA K) := by rw [← h]; exact sl_tupA
theorem tuple_ofK (K : Frag) (h : X.K = K) : CallR X (.type "tuple") (fun xs H Q => ∃ p ys, xs = [.ref p] ∧ ((SqL K H p ys ∧ ∀ l, H l = none → Q (.ref l) (upd H l (.tup ys))) ∨ (SqT K H p ys ∧ Q (.ref p) H))) := by rw [← h]; exact call_tuple_of
/-- a call that is never reached -/
theorem cr_never (f : Value) : CallR X f (fun _ _ _ => False) := fun _ _ _ _ _ _ _ _ _ h => h.elim
end
end Fd
set_option Elab.async false
set_option linter.all false
set_option maxRecDepth 100000
set_option maxHeartbeats 4000000
/-! A law's own def, run where it is called (no guard stands around it); repr of data there. -/
namespace Fd
open PySem PySem.Spec PyProof.Rows L2 PySem.W
/-- a promise kept at one place A -/
def KeepsAt (P : Program) (w : World) (K : Frag) (mg : Str → Option Value) (base : Heap) (A : Around) (f : Addr) (fd : FuncData) (ps : List Str) (sp : Sp) : Prop :=
  ∀ (outer : List Env) (s : Shared) (H : Hp) (args : Args) (us : List Value) (vs : List V) (Q : VK) (E : XK), Env0 P w K mg base A outer s H → BindsTo s fd args (ps.zip us) → Vals vs us → sp vs H Q E → codeAny (model P w) A (.call (.ref f) args) (CR CX0 outer P w H s Q E) s
section
variable {P : Program} {w : World} {K : Frag} {mg : Str → Option Value} {base : Heap}
theorem keeps_of {x qual : Str} {st : Stmt} {f : Addr} {fd : FuncData} {N ps : List Str} {k : Nat} {sp : Sp} {A : Around} (F : Fun K x qual st f fd) (S : FnScope N ps (defScope st)) (len : ∀ vs H Q E, sp vs H Q E → vs.length = ps.length) (hr : Room (k + 1) A)
    (body : ∀ (cdv : Value) (outer : List Env) (s : Shared) (H : Hp) (vs : List V) (Q : VK) (E : XK), Room k (A.deeper (envOfC qual (defScope st) s.heap.objs.size f cdv)) → sp vs H Q E →
      ∃ t, PSs (cxOf CX0 P w K mg base N qual (defScope st) f cdv A outer s H E).nox (defBody st) t ∧ t { nx := fun _ H' => Q .non H', rt := Q } (start N vs) H) : KeepsAt P w K mg base A f fd ps sp := by
  obtain ⟨oc, od, kd, dc, pm, an, cdv, ct, osl, rfl, lk, hcd⟩ := F.ex
  intro outer s H args us vs Q E env bnd rv ask
  have kin : K.In s.heap := env.mod.kin.keeps fun b o e => (env.bs b o e).1
  have loc : ∀ y ∈ ps.zip us, (defScope st).names.lookup y.1 = some .local ∨ ((defScope st).names.lookup y.1 = some .cell ∧ ((cellsFrom (s.heap.objs.size + 1) (defScope st).names []).lookup y.1).isSome = true) := by
    rintro ⟨n, v⟩ hy
    exact (S.par n (List.of_mem_zip hy).1).imp id fun q => ⟨q, cellsFrom_some _ _ _ (.inl q)⟩
  refine codeAny_call_function hr.depth (kin _ _ lk) rfl S.co S.gen rfl (codeRec_of kin hcd) (bnd _ _ _ _ (wpAny_newFunctionEnv_cells S.kind loc ?_))
  rintro env' rfl s1 x1
  refine ⟨(env.mod.nolimit.keeps fun b o e => (env.bs b o e).1).keeps x1.toInCall.keep, codeAny_func ?_⟩
  obtain ⟨t, ht, hq⟩ := body cdv outer s H vs Q E (hr.deeper _) ask
  refine wpAny_mono (ht.nox.run [] s1 _ H _ (inv_start S hr.hd env (len _ _ _ _ ask) rv x1) hq) ?_ (fun e s' h => h)
  intro fl s' res
  cases fl with
  | ret u => exact let ⟨v, _, H', J, rv, q⟩ := res; ⟨v, H', J.os, J.bare, J.base, J.hok, rv, q⟩
  | next => exact let ⟨_, H', J, q⟩ := res; ⟨V.non, H', J.os, J.bare, J.base, J.hok, rfl, q⟩
  | brk => exact (let ⟨_, _, _, q⟩ := res; q : False).elim
  | cont => exact (let ⟨_, _, _, q⟩ := res; q : False).elim
/-- the heap in which the script alone is known, and that only where the text hasn't it already -/
def scr (a : Addr) (o : Obj) (xs : List V) (t : Bool) : Hp := fun b => if b = a ∧ t = true then some (.frz o (.lst xs)) else none
theorem scr_some {a b : Addr} {o : Obj} {xs : List V} {t : Bool} {u : HO} (h : scr a o xs t b = some u) : b = a ∧ t = true ∧ u = .frz o (.lst xs) := by
  unfold scr at h
  by_cases c : b = a ∧ t = true
  · rw [if_pos c] at h; exact ⟨c.1, c.2, (Option.some.inj h).symm⟩
  · rw [if_neg c] at h; cases h
theorem run_law {mb : Str → Option Value} {fa a : Addr} {fd : FuncData} {x : Str} {sp : Sp} {s₁ : Shared} {vs : List Value} {ns : List Int} (KX : K.In s₁.heap) (hns : s₁.heap.Ns mainGlobals mg) (hb : s₁.heap.Ns builtinsNs mb) (hbb : ∀ x : Str, x ≠ "__name__" → mb x = bootBuiltins x) (hlim : s₁.heap.NoLimit)
    (hg : s₁.gens = #[]) (ha : s₁.heap.get? a = some { cls := .type "list", data := .seq vs.toArray }) (hi : IntsAre vs ns) (hl : ns.length ≤ sizeLine) (F : ∀ base : Heap, K.In base → base.Ns mainGlobals mg → KeepsAt P w K mg base callerA fa fd [x] sp)
    (hbind : ∀ (s : Shared) (u : Value), BindsTo s fd ⟨[u], []⟩ [(x, u)]) (hsp : ∀ H : Hp, Only H → SqL K H a (ns.map V.int) → sp [.ref a] H (fun v _ => v = .bl true) E0) :
    codeAny (model P w) callerA (.call (.ref fa) ⟨[.ref a], []⟩) (fun r s' => r = .ok (.ret (.bool true)) ∧ OldK s₁.heap s'.heap ∧ s'.os = s₁.os ∧ AllBare s'.gens) s₁ := by
  have rv := vals_ints hi
  obtain ⟨H, eH⟩ : ∃ H : Hp, H = scr a { cls := .type "list", data := .seq vs.toArray } (ns.map V.int) (K.lookup a).isNone := ⟨_, rfl⟩
  have inv : ∀ {b u}, H b = some u → b = a ∧ (K.lookup a).isNone = true ∧ u = .frz { cls := .type "list", data := .seq vs.toArray } (.lst (ns.map V.int)) := fun {b u} e => by
    rw [eH] at e; exact scr_some e
  have off : ∀ {b : Addr} {o : Obj}, s₁.heap.get? b = some o → (∀ its n, o.data ≠ .seq its n) → H b = none := fun {b o} e d => by
    cases q : H b with
    | none => rfl
    | some u =>
      obtain ⟨rfl, _⟩ := inv q
      rw [ha] at e
      exact absurd (congrArg Obj.data (Option.some.inj e)).symm (d _ _)
  have ns' : ∀ {b : Addr} {m : Str → Option Value}, s₁.heap.Ns b m → (hidT s₁.heap H).Ns b m := by
    rintro b m ⟨o, es, ep, e, d, r⟩
    refine ⟨o, es, ep, hidT_get e (off e fun its n z => ?_), d, r⟩
    have d1 : o.data = Data.dict es ep := d
    rw [d1] at z; cases z
  have kin : K.In (hidT s₁.heap H) := fun b o e => by
    refine hidT_get (KX b o e) ?_
    cases q : H b with
    | none => rfl
    | some u =>
      obtain ⟨rfl, h2, _⟩ := inv q
      have e' : K.lookup b = some o := e
      rw [e'] at h2; cases h2
  have only : Only H := fun b => by
    cases q : H b with
    | none => exact .inl rfl
    | some u => obtain ⟨_, _, e⟩ := inv q; exact .inr ⟨_, _, by rw [e]⟩
  have hok : HOk P w H s₁.heap := fun b u q => by
    obtain ⟨rfl, _, e⟩ := inv q
    rw [e]
    show s₁.heap.get? b = some { cls := .type "list", data := .seq vs.toArray } ∧ ObjOk P w H s₁.heap b (.lst (ns.map V.int))
    exact ⟨ha, by rw [List.length_map]; exact hl, vs, 0, rv, ha⟩
  have hS : SqL K H a (ns.map V.int) := by
    cases hk : K.lookup a with
    | some o =>
      have e := KX a o hk
      rw [ha] at e
      have e2 := Option.some.inj e
      exact .inr ⟨o, vs.toArray, _, hk, by rw [← e2], by rw [← e2], by rw [← e2], by rw [List.size_toArray, hi.length]; exact hl, by simpa using rv⟩
    | none =>
      refine .inl (.inr ⟨{ cls := .type "list", data := .seq vs.toArray }, ?_⟩)
      rw [eH, hk]
      exact if_pos ⟨rfl, rfl⟩
  obtain ⟨mc, lim1, lim2⟩ := hlim
  have e0 : Env0 P w K mg (hidT s₁.heap H) callerA [] s₁ H := by
    refine ⟨rfl, ⟨kin, ns' hns, ⟨mb, ns' hb, hbb⟩, ⟨mc, ns' lim1, lim2⟩⟩, fun b o e => of_hidT e, Nat.le_of_eq (hidT_size _ _), trivial, ?_, hok, .of_eq hg⟩
    intro b hb
    exact absurd (show b ∈ ([] : List Addr) from hb) (by simp)
  refine codeAny_mono (F _ kin (ns' hns) [] s₁ H ⟨[.ref a], []⟩ [.ref a] [.ref a] (fun v _ => v = .bl true) E0 e0 (hbind s₁ (.ref a)) (.cons rfl .nil) (hsp H only hS)) ?_
  intro r s' res
  cases r with
  | error e => exact (show False from res).elim
  | ok fl =>
    cases fl with
    | ret u =>
      obtain ⟨v, H', os, bare, un, hok', r', q⟩ := res
      have q' : v = .bl true := q
      subst q'
      have r2 : u = Value.bool true := r'
      subst r2
      refine ⟨rfl, OldK.of_keep fun b o e => ?_, os, bare⟩
      cases h : H b with
      | none => exact un.keep b o e h (fun z => absurd (show b ∈ ([] : List Addr) from z) (by simp)) (by simp)
      | some u =>
        obtain ⟨rfl, _, eu⟩ := inv h
        have z2 := un.frzs _ _ _ (by rw [h, eu])
        rw [ha] at e
        rw [← e]
        exact (hok' _ _ z2).1
    | next => exact (show False from res).elim
    | brk => exact (show False from res).elim
    | cont => exact (show False from res).elim
end
/-- a law's walk, from a promise kept at the caller's place -/
theorem walk_at {l : OpenLaw} {n : Nat} {q : Program} {loose : List Str} {XP : (Str → Option Value) → Heap → Prop} {YP : World → Heap → Prop} {d : DefRec} {x : Str} (hn : l.most = some n) (hn2 : n ≤ sizeLine) (hdf : d.params.defaults = [])
    (F : ∀ (w : World) (mg : Str → Option Value) (fa : Addr) (h : Heap), YP w h → h.Ns mainGlobals mg → mg d.name = some (.ref fa) → ∃ (K : Frag) (fd : FuncData) (sp : Sp), K.In h ∧ (∀ (s : Shared) (u : Value), BindsTo s fd ⟨[u], []⟩ [(x, u)]) ∧
      (∀ (H : Hp) (a : Addr) (ns : List Int), ns.length ≤ n → Only H → SqL K H a (ns.map V.int) → sp [.ref a] H (fun v _ => v = .bl true) E0) ∧ ∀ base : Heap, K.In base → base.Ns mainGlobals mg → KeepsAt l.prog w K mg base callerA fa fd [x] sp) :
    WalkO q loose XP YP l.row.toRowW d [] (fun f vs => PySem.call f vs) := by
  refine Att.attach_call hn hdf ?_
  intro w s₀ s₁ mg mb fa o pm cd doc a vs ns G Y ho hd hcd hmg hobj hints hlen hg
  obtain ⟨K, fd, sp, KX, hb, hsp, hF⟩ := F w mg fa _ Y G.T.g hmg
  exact run_law KX G.T.g G.T.b G.T.builtins G.T.nolimit hg hobj hints (Nat.le_trans hlen hn2) hF hb fun H hO hS => hsp H a ns hlen hO hS
/-! ### repr of data, where no guard stands -/
def rReprD (K : Frag) : List V → Hp → VK → Prop := fun xs H Q => ∃ (a : Addr) (d : PyData), xs = [.ref a] ∧ Dp K H (.ref a) d ∧ d.showable = true ∧ d.hasDict = false ∧ d.depth ≤ 60 ∧ d.shown.length ≤ sizeLine ∧ Q (.str d.shown) H
theorem cr_reprD {X : Cx} {k : Nat} (hr : Room k X.A) (hg : X.A.guards = some []) : CallR X (.builtin "repr") (rReprD X.K) := by
  intro pins s σ H xs us Q I r h
  obtain ⟨a, d, rfl, hd, hs, hn, dp, sz, q⟩ := h
  obtain ⟨u, rfl, rx⟩ := vals1 r
  obtain ⟨as, rd⟩ := Dp.reads I d (.ref a) u hd rx
  have e : u = Value.ref a := rx
  subst e
  refine repr_of_reads' rd hs (fun z => by rw [hn] at z; cases z) hg (by have := hr.un; omega) (fun _ _ e => e) (fun h' u tk hk => ?_) sz
  exact ⟨.str d.shown, H, I.kept hk, ⟨u, rfl⟩, q⟩
end Fd
set_option Elab.async false
set_option linter.all false
set_option maxRecDepth 100000
set_option maxHeartbeats 4000000
namespace Fd
open PySem PySem.Spec PyProof.Rows L2 PySem.W
theorem eqv_tI (a b : List Int) : PyData.eqv (tI a) (tI b) = decide (a = b) := by
  show PyData.eqv (.tuple (a.map .int)) (.tuple (b.map .int)) = _
  rw [PyData.eqv]
  exact ked_eqvAll a b
theorem lay_ints : ∀ a : List Int, PyData.canLayAll0 (a.map .int) = true
  | [] => by simp [PyData.canLayAll0]
  | x :: a => by
    show PyData.canLayAll0 (.int x :: a.map .int) = true
    rw [PyData.canLayAll0, lay_ints a]
    simp [PyData.canLay0]
theorem shaped_tI (a : List Int) : SeqAt.shaped (tI a) = true := by
  unfold SeqAt.shaped
  have h1 : (tI a).canLay0 = true := by
    show PyData.canLay0 (.tuple (a.map .int)) = true
    rw [PyData.canLay0]; exact lay_ints a
  have h2 : (tI a).depth ≤ 64 := by
    show PyData.depth (.tuple (a.map .int)) ≤ 64
    rw [PyData.depth, depth_ints]; decide
  rw [h1, decide_eq_true h2]; rfl
theorem lay_tIs : ∀ a : List (List Int), PyData.canLayAll0 (a.map tI) = true
  | [] => by simp [PyData.canLayAll0]
  | x :: a => by
    show PyData.canLayAll0 (tI x :: a.map tI) = true
    have h1 : (tI x).canLay0 = true := by
      show PyData.canLay0 (.tuple (x.map .int)) = true
      rw [PyData.canLay0]; exact lay_ints x
    rw [PyData.canLayAll0, lay_tIs a, h1]; rfl
theorem depth_tIs : ∀ a : List (List Int), PyData.depthAll (a.map tI) ≤ 1
  | [] => by simp [PyData.depthAll]
  | x :: a => by
    have := depth_tIs a
    rw [List.map_cons, PyData.depthAll]
    have h : (tI x).depth ≤ 1 := by
      show PyData.depth (.tuple (x.map .int)) ≤ 1
      rw [PyData.depth, depth_ints]; decide
    omega
/-- a list of tuples of ints -/
theorem shaped_LI (a : List (List Int)) : SeqAt.shaped (.list (a.map tI)) = true := by
  unfold SeqAt.shaped
  have h1 : (PyData.list (a.map tI)).canLay0 = true := by rw [PyData.canLay0]; exact lay_tIs a
  have h2 : (PyData.list (a.map tI)).depth ≤ 64 := by
    rw [PyData.depth]
    have := depth_tIs a
    omega
  rw [h1, decide_eq_true h2]; rfl
end Fd
set_option Elab.async false
set_option linter.all false
set_option maxRecDepth 100000
set_option maxHeartbeats 4000000
namespace Fd
open PySem PySem.Spec PyProof.Rows L2 PySem.W
theorem any_tI (g : List Int) : ∀ ps : List (List Int), ((ps.map tI).any fun z => PyData.eqv z (tI g)) = decide (g ∈ ps)
  | [] => by simp
  | p :: ps => by
    rw [List.map_cons, List.any_cons, any_tI g ps, eqv_tI]
    by_cases c : p = g
    · simp [c]
    · have c' : ¬ g = p := fun z => c z.symm
      simp [c, c']
theorem idx_tI {g : List Int} {ps : List (List Int)} (h : g ∈ ps) : ∃ z, (ps.map tI)[ps.idxOf g]? = some z ∧ PyData.eqv z (tI g) = true ∧ ∀ (m : Nat) (z' : PyData), m < ps.idxOf g → (ps.map tI)[m]? = some z' → PyData.eqv z' (tI g) = false := by
  have hl := List.idxOf_lt_length_of_mem h
  refine ⟨tI g, ?_, by rw [eqv_tI]; simp, fun m z' hm hz => ?_⟩
  · rw [List.getElem?_map, List.getElem?_eq_getElem hl, List.getElem_idxOf hl]; rfl
  · rw [List.getElem?_map] at hz
    cases e : ps[m]? with
    | none => rw [e] at hz; cases hz
    | some x =>
      rw [e] at hz
      have e2 : tI x = z' := Option.some.inj hz
      rw [← e2, eqv_tI]
      refine decide_eq_false fun c => ?_
      subst c
      obtain ⟨h1, h2⟩ := List.getElem?_eq_some_iff.mp e
      have h3 : ps[m] == x := by rw [h2]; simp
      have := List.not_of_lt_findIdx (p := fun y => y == x) hm
      rw [h2] at this
      simp at this
end Fd
set_option Elab.async false
set_option linter.all false
set_option maxRecDepth 100000
set_option maxHeartbeats 4000000
/-! Data that repr may be asked of. -/
namespace Fd
open PySem PySem.Spec PyProof.Rows L2 PySem.W
structure RO (D W : Nat) (d : PyData) : Prop where
  sh : d.showable = true
  nd : d.hasDict = false
  dp : d.depth ≤ D
  ls : d.leavesShort 13 = true
  wt : d.weight + 1 ≤ W
structure ROs (D W : Nat) (ds : List PyData) : Prop where
  sh : PyData.showableAll ds = true
  nd : PyData.hasDictAll ds = false
  dp : PyData.depthAll ds ≤ D
  ls : PyData.leavesShortAll 13 ds = true
  wt : PyData.weightAll ds ≤ ds.length * W
theorem ROs.of {D W : Nat} : ∀ {ds : List PyData}, (∀ d ∈ ds, RO D W d) → ROs D W ds
  | [], _ => ⟨by simp [PyData.showableAll], by simp [PyData.hasDictAll], by simp [PyData.depthAll], by simp [PyData.leavesShortAll], by simp [PyData.weightAll]⟩
  | d :: ds, h => by
    have h1 := h d (by simp)
    have h2 : ROs D W ds := ROs.of fun x hx => h x (by simp [hx])
    refine ⟨by rw [PyData.showableAll, h1.sh, h2.sh]; rfl, by rw [PyData.hasDictAll, h1.nd, h2.nd]; rfl, ?_, by rw [PyData.leavesShortAll, h1.ls, h2.ls]; rfl, ?_⟩
    · rw [PyData.depthAll]; have := h1.dp; have := h2.dp; omega
    · rw [PyData.weightAll, List.length_cons, Nat.succ_mul]; have := h1.wt; have := h2.wt; omega
theorem RO.tup {D W n : Nat} {ds : List PyData} (h : ∀ d ∈ ds, RO D W d) (hn : ds.length ≤ n) : RO (D + 1) (n * W + 1) (.tuple ds) := by
  have h2 := ROs.of h
  have h3 := Nat.mul_le_mul_right W hn
  exact ⟨by rw [PyData.showable]; exact h2.sh, by rw [PyData.hasDict]; exact h2.nd, by rw [PyData.depth]; have := h2.dp; omega, by rw [PyData.leavesShort]; exact h2.ls, by rw [PyData.weight]; have := h2.wt; omega⟩
theorem RO.lst {D W n : Nat} {ds : List PyData} (h : ∀ d ∈ ds, RO D W d) (hn : ds.length ≤ n) : RO (D + 1) (n * W + 1) (.list ds) := by
  have h2 := ROs.of h
  have h3 := Nat.mul_le_mul_right W hn
  exact ⟨by rw [PyData.showable]; exact h2.sh, by rw [PyData.hasDict]; exact h2.nd, by rw [PyData.depth]; have := h2.dp; omega, by rw [PyData.leavesShort]; exact h2.ls, by rw [PyData.weight]; have := h2.wt; omega⟩
theorem RO.int {i : Int} (h : i.natAbs < 1000000) : RO 0 21 (.int i) := by
  refine ⟨?_, by simp [PyData.hasDict], by simp [PyData.depth], ?_, ?_⟩
  · rw [PyData.showable]
    refine decide_eq_true ?_
    by_cases z : i.natAbs = 0
    · rw [z]; decide
    · have : i.natAbs.log2 < 20 := (Nat.log2_lt z).mpr (by omega)
      omega
  · rw [PyData.leavesShort]
    exact decide_eq_true (PyData.shown_int_le (by omega))
  · rw [PyData.weight]
    by_cases z : i = 0
    · simp [z]
    · have z' : i.natAbs ≠ 0 := by omega
      have : i.natAbs.log2 < 20 := (Nat.log2_lt z').mpr (by omega)
      simp [z]; omega
theorem RO.mono {D D' W W' : Nat} {d : PyData} (x : RO D W d) (h : D ≤ D') (h' : W ≤ W') : RO D' W' d := ⟨x.sh, x.nd, Nat.le_trans x.dp h, x.ls, Nat.le_trans x.wt h'⟩
theorem RO.fits {D W : Nat} {d : PyData} (x : RO D W d) (h : W ≤ 2 ^ 20) : d.shown.length ≤ sizeLine := PyData.shown_fits (B := 13) (by decide) (by decide) x.ls (by have := x.wt; omega)
/-- the data of moves and of closings -/
def encM (mv : List (List (List Int))) : PyData := .tuple (mv.map fun r => .tuple (r.map tI))
def encC (cl : List (List Int)) : PyData := .tuple (cl.map tI)
theorem ro_I {ns : List Int} {n : Nat} (h : ∀ x ∈ ns, x.natAbs < 1000000) (hn : ns.length ≤ n) : RO 1 (n * 21 + 1) (tI ns) := RO.tup (fun d hd => by
  obtain ⟨x, hx, rfl⟩ := List.mem_map.mp hd
  exact RO.int (h x hx)) (by rw [List.length_map]; exact hn)
theorem ro_M {mv : List (List (List Int))} {n1 n2 : Nat} (h : ∀ r ∈ mv, r.length ≤ n2 ∧ ∀ m ∈ r, m.length ≤ 4 ∧ ∀ x ∈ m, x.natAbs < 1000000) (hn : mv.length ≤ n1) : RO 3 (n1 * (n2 * 85 + 1) + 1) (encM mv) := RO.tup (fun d hd => by
  obtain ⟨r, hr, rfl⟩ := List.mem_map.mp hd
  exact RO.tup (fun d hd => by
    obtain ⟨m, hm, rfl⟩ := List.mem_map.mp hd
    exact ro_I ((h r hr).2 m hm).2 ((h r hr).2 m hm).1) (by rw [List.length_map]; exact (h r hr).1)) (by rw [List.length_map]; exact hn)
theorem ro_C {cl : List (List Int)} {n1 n2 : Nat} (h : ∀ r ∈ cl, r.length ≤ n2 ∧ ∀ x ∈ r, x.natAbs < 1000000) (hn : cl.length ≤ n1) : RO 2 (n1 * (n2 * 21 + 1) + 1) (encC cl) := RO.tup (fun d hd => by
  obtain ⟨r, hr, rfl⟩ := List.mem_map.mp hd
  exact ro_I (h r hr).2 (h r hr).1) (by rw [List.length_map]; exact hn)
end Fd
set_option Elab.async false
set_option linter.all false
set_option maxRecDepth 100000
set_option maxHeartbeats 4000000
namespace Fd
open PySem PySem.Spec PyProof.Rows L2
def top (i : Nat) : Stmt := PySem.Challenge.pw_falsedays_k80_whole_where_editions_part.main.body.getD i (.Pass ⟨0, 0, 0, 0⟩)
abbrev s_is_integer : Stmt := top 7
abbrev N_is_integer : List Str := ["thing"]
abbrev P_is_integer : List Str := ["thing"]
theorem sc_is_integer : FnScope N_is_integer P_is_integer (defScope s_is_integer) := ⟨rfl, rfl, rfl, by decide +kernel, rfl, by decide +kernel, by decide +kernel⟩
abbrev s_is_within : Stmt := top 8
abbrev N_is_within : List Str := ["thing", "least", "most"]
abbrev P_is_within : List Str := ["thing", "least", "most"]
theorem sc_is_within : FnScope N_is_within P_is_within (defScope s_is_within) := ⟨rfl, rfl, rfl, by decide +kernel, rfl, by decide +kernel, by decide +kernel⟩
abbrev s_is_triple : Stmt := top 9
abbrev N_is_triple : List Str := ["thing"]
abbrev P_is_triple : List Str := ["thing"]
theorem sc_is_triple : FnScope N_is_triple P_is_triple (defScope s_is_triple) := ⟨rfl, rfl, rfl, by decide +kernel, rfl, by decide +kernel, by decide +kernel⟩
abbrev s_are_ascending : Stmt := top 10
abbrev N_are_ascending : List Str := ["things", "at"]
abbrev P_are_ascending : List Str := ["things"]
theorem sc_are_ascending : FnScope N_are_ascending P_are_ascending (defScope s_are_ascending) := ⟨rfl, rfl, rfl, by decide +kernel, rfl, by decide +kernel, by decide +kernel⟩
abbrev s_are_sizes : Stmt := top 14
abbrev N_are_sizes : List Str := ["thing", "size"]
abbrev P_are_sizes : List Str := ["thing"]
theorem sc_are_sizes : FnScope N_are_sizes P_are_sizes (defScope s_are_sizes) := ⟨rfl, rfl, rfl, by decide +kernel, rfl, by decide +kernel, by decide +kernel⟩
abbrev s_is_move : Stmt := top 15
abbrev N_is_move : List Str := ["sizes", "many", "thing", "slips", "answers", "marks"]
abbrev P_is_move : List Str := ["sizes", "many", "thing"]
theorem sc_is_move : FnScope N_is_move P_is_move (defScope s_is_move) := ⟨rfl, rfl, rfl, by decide +kernel, rfl, by decide +kernel, by decide +kernel⟩
abbrev s_are_moves : Stmt := top 16
abbrev N_are_moves : List Str := ["sizes", "thing", "row", "move"]
abbrev P_are_moves : List Str := ["sizes", "thing"]
theorem sc_are_moves : FnScope N_are_moves P_are_moves (defScope s_are_moves) := ⟨rfl, rfl, rfl, by decide +kernel, rfl, by decide +kernel, by decide +kernel⟩
abbrev s_are_closings : Stmt := top 17
abbrev N_are_closings : List Str := ["sizes", "many", "thing", "row", "mark"]
abbrev P_are_closings : List Str := ["sizes", "many", "thing"]
theorem sc_are_closings : FnScope N_are_closings P_are_closings (defScope s_are_closings) := ⟨rfl, rfl, rfl, by decide +kernel, rfl, by decide +kernel, by decide +kernel⟩
abbrev s_Office_init : Stmt := inClass (top 18) 0
abbrev N_Office_init : List Str := ["self", "sizes", "moves", "closings"]
abbrev P_Office_init : List Str := ["self", "sizes", "moves", "closings"]
theorem sc_Office_init : FnScope N_Office_init P_Office_init (defScope s_Office_init) := ⟨rfl, rfl, rfl, by decide +kernel, rfl, by decide +kernel, by decide +kernel⟩
abbrev s_Office_keep : Stmt := inClass (top 18) 1
abbrev N_Office_keep : List Str := ["self", "sizes", "moves", "closings", "row", "goals", "slip", "answer", "mark", "goal"]
abbrev P_Office_keep : List Str := ["self", "sizes", "moves", "closings"]
theorem sc_Office_keep : FnScope N_Office_keep P_Office_keep (defScope s_Office_keep) := ⟨rfl, rfl, rfl, by decide +kernel, rfl, by decide +kernel, by decide +kernel⟩
abbrev s_goals_of : Stmt := top 19
abbrev N_goals_of : List Str := ["office", "standings", "step", "found", "standing", "goal"]
abbrev P_goals_of : List Str := ["office", "standings", "step"]
theorem sc_goals_of : FnScope N_goals_of P_goals_of (defScope s_goals_of) := ⟨rfl, rfl, rfl, by decide +kernel, rfl, by decide +kernel, by decide +kernel⟩
abbrev s_all_steps : Stmt := top 20
abbrev N_all_steps : List Str := ["office", "slips", "answers", "marks", "notes_here", "slip", "answer", "note", "mark"]
abbrev P_all_steps : List Str := ["office"]
theorem sc_all_steps : FnScope N_all_steps P_all_steps (defScope s_all_steps) := ⟨rfl, rfl, rfl, by decide +kernel, rfl, by decide +kernel, by decide +kernel⟩
abbrev s_Reader_init : Stmt := inClass (top 24) 0
abbrev N_Reader_init : List Str := ["self", "office", "steps", "known", "standings", "row", "step", "goals"]
abbrev P_Reader_init : List Str := ["self", "office"]
theorem sc_Reader_init : FnScope N_Reader_init P_Reader_init (defScope s_Reader_init) := ⟨rfl, rfl, rfl, by decide +kernel, rfl, by decide +kernel, by decide +kernel⟩
abbrev s_Reader_behind : Stmt := inClass (top 24) 1
abbrev N_Reader_behind : List Str := ["self", "number", "step"]
abbrev P_Reader_behind : List Str := ["self", "number", "step"]
theorem sc_Reader_behind : FnScope N_Reader_behind P_Reader_behind (defScope s_Reader_behind) := ⟨rfl, rfl, rfl, by decide +kernel, rfl, by decide +kernel, by decide +kernel⟩
abbrev s_Reader_closes : Stmt := inClass (top 24) 3
abbrev N_Reader_closes : List Str := ["self", "number", "last"]
abbrev P_Reader_closes : List Str := ["self", "number", "last"]
theorem sc_Reader_closes : FnScope N_Reader_closes P_Reader_closes (defScope s_Reader_closes) := ⟨rfl, rfl, rfl, by decide +kernel, rfl, by decide +kernel, by decide +kernel⟩
abbrev s_lasts_of : Stmt := top 25
abbrev N_lasts_of : List Str := ["office", "standings", "found", "standing", "mark"]
abbrev P_lasts_of : List Str := ["office", "standings"]
theorem sc_lasts_of : FnScope N_lasts_of P_lasts_of (defScope s_lasts_of) := ⟨rfl, rfl, rfl, by decide +kernel, rfl, by decide +kernel, by decide +kernel⟩
abbrev s_Editions_init : Stmt := inClass (top 27) 0
abbrev N_Editions_init : List Str := ["self", "one_office", "other_office"]
abbrev P_Editions_init : List Str := ["self", "one_office", "other_office"]
theorem sc_Editions_init : FnScope N_Editions_init P_Editions_init (defScope s_Editions_init) := ⟨rfl, rfl, rfl, by decide +kernel, rfl, by decide +kernel, by decide +kernel⟩
abbrev s_Editions_parting : Stmt := inClass (top 27) 1
abbrev N_Editions_parting : List Str := ["self", "one", "other", "found", "pair", "steps", "last"]
abbrev P_Editions_parting : List Str := ["self"]
theorem sc_Editions_parting : FnScope N_Editions_parting P_Editions_parting (defScope s_Editions_parting) := ⟨rfl, rfl, rfl, by decide +kernel, rfl, by decide +kernel, by decide +kernel⟩
abbrev s_Editions_steps_from : Stmt := inClass (top 27) 2
abbrev N_Editions_steps_from : List Str := ["self", "pair", "found", "reader", "number", "step"]
abbrev P_Editions_steps_from : List Str := ["self", "pair"]
theorem sc_Editions_steps_from : FnScope N_Editions_steps_from P_Editions_steps_from (defScope s_Editions_steps_from) := ⟨rfl, rfl, rfl, by decide +kernel, rfl, by decide +kernel, by decide +kernel⟩
abbrev s_Editions_advance : Stmt := inClass (top 27) 3
abbrev N_Editions_advance : List Str := ["self", "one", "other", "later", "pair", "steps", "step", "goal", "longer"]
abbrev P_Editions_advance : List Str := ["self"]
theorem sc_Editions_advance : FnScope N_Editions_advance P_Editions_advance (defScope s_Editions_advance) := ⟨rfl, rfl, rfl, by decide +kernel, rfl, by decide +kernel, by decide +kernel⟩
abbrev s_same_days : Stmt := top 28
abbrev N_same_days : List Str := ["one_office", "other_office", "editions", "day"]
abbrev P_same_days : List Str := ["one_office", "other_office"]
theorem sc_same_days : FnScope N_same_days P_same_days (defScope s_same_days) := ⟨rfl, rfl, rfl, by decide +kernel, rfl, by decide +kernel, by decide +kernel⟩
abbrev s_l_hand : Stmt := top 30
abbrev N_l_hand : List Str := ["_law_script", "_law_cells", "_law_cell"]
abbrev P_l_hand : List Str := ["_law_script"]
theorem sc_l_hand : FnScope N_l_hand P_l_hand (defScope s_l_hand) := ⟨rfl, rfl, rfl, by decide +kernel, rfl, by decide +kernel, by decide +kernel⟩
abbrev s_l_draw : Stmt := top 31
abbrev N_l_draw : List Str := ["_law_hand_here", "_law_many", "_law_cell", "_law_digit", "_law_number"]
abbrev P_l_draw : List Str := ["_law_hand_here", "_law_many"]
theorem sc_l_draw : FnScope N_l_draw P_l_draw (defScope s_l_draw) := ⟨rfl, rfl, rfl, by decide +kernel, rfl, by decide +kernel, by decide +kernel⟩
abbrev s_l_sizes : Stmt := top 32
abbrev N_l_sizes : List Str := ["_law_hand_here", "_law_most"]
abbrev P_l_sizes : List Str := ["_law_hand_here", "_law_most"]
theorem sc_l_sizes : FnScope N_l_sizes P_l_sizes (defScope s_l_sizes) := ⟨rfl, rfl, rfl, by decide +kernel, rfl, by decide +kernel, by decide +kernel⟩
abbrev s_l_moves : Stmt := top 33
abbrev N_l_moves : List Str := ["_law_hand_here", "_law_sizes_here", "_law_many", "_law_found", "_law_standing", "_law_row", "_law_slip", "_law_turn"]
abbrev P_l_moves : List Str := ["_law_hand_here", "_law_sizes_here", "_law_many"]
theorem sc_l_moves : FnScope N_l_moves P_l_moves (defScope s_l_moves) := ⟨rfl, rfl, rfl, by decide +kernel, rfl, by decide +kernel, by decide +kernel⟩
abbrev s_l_closings : Stmt := top 34
abbrev N_l_closings : List Str := ["_law_hand_here", "_law_sizes_here", "_law_many", "_law_found", "_law_standing", "_law_mark"]
abbrev P_l_closings : List Str := ["_law_hand_here", "_law_sizes_here", "_law_many"]
theorem sc_l_closings : FnScope N_l_closings P_l_closings (defScope s_l_closings) := ⟨rfl, rfl, rfl, by decide +kernel, rfl, by decide +kernel, by decide +kernel⟩
abbrev s_l_office : Stmt := top 35
abbrev N_l_office : List Str := ["_law_hand_here", "_law_sizes_here", "_law_most", "_law_many"]
abbrev P_l_office : List Str := ["_law_hand_here", "_law_sizes_here", "_law_most"]
theorem sc_l_office : FnScope N_l_office P_l_office (defScope s_l_office) := ⟨rfl, rfl, rfl, by decide +kernel, rfl, by decide +kernel, by decide +kernel⟩
abbrev s_l_behind : Stmt := top 36
abbrev N_l_behind : List Str := ["_law_office_here", "_law_standings", "_law_step", "_law_found", "_law_standing", "_law_move"]
abbrev P_l_behind : List Str := ["_law_office_here", "_law_standings", "_law_step"]
theorem sc_l_behind : FnScope N_l_behind P_l_behind (defScope s_l_behind) := ⟨rfl, rfl, rfl, by decide +kernel, rfl, by decide +kernel, by decide +kernel⟩
abbrev s_l_all_steps : Stmt := top 37
abbrev N_l_all_steps : List Str := ["_law_sizes_here", "_law_found", "_law_slip", "_law_answer", "_law_mark"]
abbrev P_l_all_steps : List Str := ["_law_sizes_here"]
theorem sc_l_all_steps : FnScope N_l_all_steps P_l_all_steps (defScope s_l_all_steps) := ⟨rfl, rfl, rfl, by decide +kernel, rfl, by decide +kernel, by decide +kernel⟩
abbrev s_l_closes : Stmt := top 38
abbrev N_l_closes : List Str := ["_law_office_here", "_law_standings", "_law_last", "_law_standing"]
abbrev P_l_closes : List Str := ["_law_office_here", "_law_standings", "_law_last"]
theorem sc_l_closes : FnScope N_l_closes P_l_closes (defScope s_l_closes) := ⟨rfl, rfl, rfl, by decide +kernel, rfl, by decide +kernel, by decide +kernel⟩
abbrev s_l_true : Stmt := top 39
abbrev N_l_true : List Str := ["_law_office_here", "_law_day", "_law_standings", "_law_step"]
abbrev P_l_true : List Str := ["_law_office_here", "_law_day"]
theorem sc_l_true : FnScope N_l_true P_l_true (defScope s_l_true) := ⟨rfl, rfl, rfl, by decide +kernel, rfl, by decide +kernel, by decide +kernel⟩
abbrev s_l_days : Stmt := top 40
abbrev N_l_days : List Str := ["_law_office_here", "_law_many", "_law_layer", "_law_turn", "_law_longer", "_law_steps", "_law_standings", "_law_step", "_law_goals", "_law_found", "_law_last"]
abbrev P_l_days : List Str := ["_law_office_here", "_law_many"]
theorem sc_l_days : FnScope N_l_days P_l_days (defScope s_l_days) := ⟨rfl, rfl, rfl, by decide +kernel, rfl, by decide +kernel, by decide +kernel⟩
abbrev s_l_changed : Stmt := top 41
abbrev N_l_changed : List Str := ["_law_hand_here", "_law_office_here", "_law_kind", "_law_many", "_law_at", "_law_moves_here", "_law_closings_here", "_law_mark", "_law_others", "_law_index", "_law_turned", "_law_other", "_law_move"]
abbrev P_l_changed : List Str := ["_law_hand_here", "_law_office_here"]
theorem sc_l_changed : FnScope N_l_changed P_l_changed (defScope s_l_changed) := ⟨rfl, rfl, rfl, by decide +kernel, rfl, by decide +kernel, by decide +kernel⟩
abbrev s_l_ring_office : Stmt := top 42
abbrev N_l_ring_office : List Str := ["_law_hand_here", "_law_sizes_here", "_law_many", "_law_period", "_law_told", "_law_at", "_law_lasts", "_law_resets", "_law_moves_here", "_law_row", "_law_slip", "_law_goal", "_law_mark"]
abbrev P_l_ring_office : List Str := ["_law_hand_here", "_law_sizes_here"]
theorem sc_l_ring_office : FnScope N_l_ring_office P_l_ring_office (defScope s_l_ring_office) := ⟨rfl, rfl, rfl, by decide +kernel, rfl, by decide +kernel, by decide +kernel⟩
abbrev s_l_least_parting : Stmt := top 43
abbrev N_l_least_parting : List Str := ["_law_one", "_law_other", "_law_layer", "_law_met", "_law_many", "_law_longer", "_law_steps", "_law_mine", "_law_theirs", "_law_last", "_law_step", "_law_goal"]
abbrev P_l_least_parting : List Str := ["_law_one", "_law_other"]
theorem sc_l_least_parting : FnScope N_l_least_parting P_l_least_parting (defScope s_l_least_parting) := ⟨rfl, rfl, rfl, by decide +kernel, rfl, by decide +kernel, by decide +kernel⟩
abbrev s_l_two : Stmt := top 44
abbrev N_l_two : List Str := ["_law_hand_here", "_law_kind", "_law_sizes_here", "_law_one", "_law_other"]
abbrev P_l_two : List Str := ["_law_hand_here"]
theorem sc_l_two : FnScope N_l_two P_l_two (defScope s_l_two) := ⟨rfl, rfl, rfl, by decide +kernel, rfl, by decide +kernel, by decide +kernel⟩
abbrev s_law : Stmt := top 45
abbrev N_law : List Str := ["_law_script", "_law_hand_here", "_law_one", "_law_other", "_law_due", "_law_told", "_law_many"]
abbrev P_law : List Str := ["_law_script"]
theorem sc_law : FnScope N_law P_law (defScope s_law) := ⟨rfl, rfl, rfl, by decide +kernel, rfl, by decide +kernel, by decide +kernel⟩
structure Txt (K : PySem.W.Frag) (mg : Str → Option Value) where
  (a_is_integer : Addr) (d_is_integer : FuncData)
  F_is_integer : Fun K "is_integer" "is_integer" s_is_integer a_is_integer d_is_integer
  b_is_integer : Binds K d_is_integer P_is_integer []
  g_is_integer : mg "is_integer" = some (.ref a_is_integer)
  k_is_integer : PySem.W.keepIn K (.ref a_is_integer) = true
  (a_is_within : Addr) (d_is_within : FuncData)
  F_is_within : Fun K "is_within" "is_within" s_is_within a_is_within d_is_within
  b_is_within : Binds K d_is_within P_is_within []
  g_is_within : mg "is_within" = some (.ref a_is_within)
  k_is_within : PySem.W.keepIn K (.ref a_is_within) = true
  (a_is_triple : Addr) (d_is_triple : FuncData)
  F_is_triple : Fun K "is_triple" "is_triple" s_is_triple a_is_triple d_is_triple
  b_is_triple : Binds K d_is_triple P_is_triple []
  g_is_triple : mg "is_triple" = some (.ref a_is_triple)
  k_is_triple : PySem.W.keepIn K (.ref a_is_triple) = true
  (a_are_ascending : Addr) (d_are_ascending : FuncData)
  F_are_ascending : Fun K "are_ascending" "are_ascending" s_are_ascending a_are_ascending d_are_ascending
  b_are_ascending : Binds K d_are_ascending P_are_ascending []
  g_are_ascending : mg "are_ascending" = some (.ref a_are_ascending)
  k_are_ascending : PySem.W.keepIn K (.ref a_are_ascending) = true
  (a_are_sizes : Addr) (d_are_sizes : FuncData)
  F_are_sizes : Fun K "are_sizes" "are_sizes" s_are_sizes a_are_sizes d_are_sizes
  b_are_sizes : Binds K d_are_sizes P_are_sizes []
  g_are_sizes : mg "are_sizes" = some (.ref a_are_sizes)
  k_are_sizes : PySem.W.keepIn K (.ref a_are_sizes) = true
  (a_is_move : Addr) (d_is_move : FuncData)
  F_is_move : Fun K "is_move" "is_move" s_is_move a_is_move d_is_move
  b_is_move : Binds K d_is_move P_is_move []
  g_is_move : mg "is_move" = some (.ref a_is_move)
  k_is_move : PySem.W.keepIn K (.ref a_is_move) = true
  (a_are_moves : Addr) (d_are_moves : FuncData)
  F_are_moves : Fun K "are_moves" "are_moves" s_are_moves a_are_moves d_are_moves
  b_are_moves : Binds K d_are_moves P_are_moves []
  g_are_moves : mg "are_moves" = some (.ref a_are_moves)
  k_are_moves : PySem.W.keepIn K (.ref a_are_moves) = true
  (a_are_closings : Addr) (d_are_closings : FuncData)
  F_are_closings : Fun K "are_closings" "are_closings" s_are_closings a_are_closings d_are_closings
  b_are_closings : Binds K d_are_closings P_are_closings []
  g_are_closings : mg "are_closings" = some (.ref a_are_closings)
  k_are_closings : PySem.W.keepIn K (.ref a_are_closings) = true
  (a_Office_init : Addr) (d_Office_init : FuncData)
  F_Office_init : Fun K "__init__" "Office.__init__" s_Office_init a_Office_init d_Office_init
  b_Office_init : Binds K d_Office_init P_Office_init []
  (a_Office_keep : Addr) (d_Office_keep : FuncData)
  F_Office_keep : Fun K "keep" "Office.keep" s_Office_keep a_Office_keep d_Office_keep
  b_Office_keep : Binds K d_Office_keep P_Office_keep []
  (a_goals_of : Addr) (d_goals_of : FuncData)
  F_goals_of : Fun K "goals_of" "goals_of" s_goals_of a_goals_of d_goals_of
  b_goals_of : Binds K d_goals_of P_goals_of []
  g_goals_of : mg "goals_of" = some (.ref a_goals_of)
  k_goals_of : PySem.W.keepIn K (.ref a_goals_of) = true
  (a_all_steps : Addr) (d_all_steps : FuncData)
  F_all_steps : Fun K "all_steps" "all_steps" s_all_steps a_all_steps d_all_steps
  b_all_steps : Binds K d_all_steps P_all_steps []
  g_all_steps : mg "all_steps" = some (.ref a_all_steps)
  k_all_steps : PySem.W.keepIn K (.ref a_all_steps) = true
  (a_Reader_init : Addr) (d_Reader_init : FuncData)
  F_Reader_init : Fun K "__init__" "Reader.__init__" s_Reader_init a_Reader_init d_Reader_init
  b_Reader_init : Binds K d_Reader_init P_Reader_init []
  (a_Reader_behind : Addr) (d_Reader_behind : FuncData)
  F_Reader_behind : Fun K "behind" "Reader.behind" s_Reader_behind a_Reader_behind d_Reader_behind
  b_Reader_behind : Binds K d_Reader_behind P_Reader_behind []
  (a_Reader_closes : Addr) (d_Reader_closes : FuncData)
  F_Reader_closes : Fun K "closes" "Reader.closes" s_Reader_closes a_Reader_closes d_Reader_closes
  b_Reader_closes : Binds K d_Reader_closes P_Reader_closes []
  (a_lasts_of : Addr) (d_lasts_of : FuncData)
  F_lasts_of : Fun K "lasts_of" "lasts_of" s_lasts_of a_lasts_of d_lasts_of
  b_lasts_of : Binds K d_lasts_of P_lasts_of []
  g_lasts_of : mg "lasts_of" = some (.ref a_lasts_of)
  k_lasts_of : PySem.W.keepIn K (.ref a_lasts_of) = true
  (a_Editions_init : Addr) (d_Editions_init : FuncData)
  F_Editions_init : Fun K "__init__" "Editions.__init__" s_Editions_init a_Editions_init d_Editions_init
  b_Editions_init : Binds K d_Editions_init P_Editions_init []
  (a_Editions_parting : Addr) (d_Editions_parting : FuncData)
  F_Editions_parting : Fun K "parting" "Editions.parting" s_Editions_parting a_Editions_parting d_Editions_parting
  b_Editions_parting : Binds K d_Editions_parting P_Editions_parting []
  (a_Editions_steps_from : Addr) (d_Editions_steps_from : FuncData)
  F_Editions_steps_from : Fun K "steps_from" "Editions.steps_from" s_Editions_steps_from a_Editions_steps_from d_Editions_steps_from
  b_Editions_steps_from : Binds K d_Editions_steps_from P_Editions_steps_from []
  (a_Editions_advance : Addr) (d_Editions_advance : FuncData)
  F_Editions_advance : Fun K "advance" "Editions.advance" s_Editions_advance a_Editions_advance d_Editions_advance
  b_Editions_advance : Binds K d_Editions_advance P_Editions_advance []
  (a_same_days : Addr) (d_same_days : FuncData)
  F_same_days : Fun K "same_days" "same_days" s_same_days a_same_days d_same_days
  b_same_days : Binds K d_same_days P_same_days []
  g_same_days : mg "same_days" = some (.ref a_same_days)
  k_same_days : PySem.W.keepIn K (.ref a_same_days) = true
  (a_l_hand : Addr) (d_l_hand : FuncData)
  F_l_hand : Fun K "_law_hand" "_law_hand" s_l_hand a_l_hand d_l_hand
  b_l_hand : Binds K d_l_hand P_l_hand []
  g_l_hand : mg "_law_hand" = some (.ref a_l_hand)
  k_l_hand : PySem.W.keepIn K (.ref a_l_hand) = true
  (a_l_draw : Addr) (d_l_draw : FuncData)
  F_l_draw : Fun K "_law_draw" "_law_draw" s_l_draw a_l_draw d_l_draw
  b_l_draw : Binds K d_l_draw P_l_draw []
  g_l_draw : mg "_law_draw" = some (.ref a_l_draw)
  k_l_draw : PySem.W.keepIn K (.ref a_l_draw) = true
  (a_l_sizes : Addr) (d_l_sizes : FuncData)
  F_l_sizes : Fun K "_law_sizes" "_law_sizes" s_l_sizes a_l_sizes d_l_sizes
  b_l_sizes : Binds K d_l_sizes P_l_sizes []
  g_l_sizes : mg "_law_sizes" = some (.ref a_l_sizes)
  k_l_sizes : PySem.W.keepIn K (.ref a_l_sizes) = true
  (a_l_moves : Addr) (d_l_moves : FuncData)
  F_l_moves : Fun K "_law_moves" "_law_moves" s_l_moves a_l_moves d_l_moves
  b_l_moves : Binds K d_l_moves P_l_moves []
  g_l_moves : mg "_law_moves" = some (.ref a_l_moves)
  k_l_moves : PySem.W.keepIn K (.ref a_l_moves) = true
  (a_l_closings : Addr) (d_l_closings : FuncData)
  F_l_closings : Fun K "_law_closings" "_law_closings" s_l_closings a_l_closings d_l_closings
  b_l_closings : Binds K d_l_closings P_l_closings []
  g_l_closings : mg "_law_closings" = some (.ref a_l_closings)
  k_l_closings : PySem.W.keepIn K (.ref a_l_closings) = true
  (a_l_office : Addr) (d_l_office : FuncData)
  F_l_office : Fun K "_law_office" "_law_office" s_l_office a_l_office d_l_office
  b_l_office : Binds K d_l_office P_l_office []
  g_l_office : mg "_law_office" = some (.ref a_l_office)
  k_l_office : PySem.W.keepIn K (.ref a_l_office) = true
  (a_l_behind : Addr) (d_l_behind : FuncData)
  F_l_behind : Fun K "_law_behind" "_law_behind" s_l_behind a_l_behind d_l_behind
  b_l_behind : Binds K d_l_behind P_l_behind []
  g_l_behind : mg "_law_behind" = some (.ref a_l_behind)
  k_l_behind : PySem.W.keepIn K (.ref a_l_behind) = true
  (a_l_all_steps : Addr) (d_l_all_steps : FuncData)
  F_l_all_steps : Fun K "_law_all_steps" "_law_all_steps" s_l_all_steps a_l_all_steps d_l_all_steps
  b_l_all_steps : Binds K d_l_all_steps P_l_all_steps []
  g_l_all_steps : mg "_law_all_steps" = some (.ref a_l_all_steps)
  k_l_all_steps : PySem.W.keepIn K (.ref a_l_all_steps) = true
  (a_l_closes : Addr) (d_l_closes : FuncData)
  F_l_closes : Fun K "_law_closes" "_law_closes" s_l_closes a_l_closes d_l_closes
  b_l_closes : Binds K d_l_closes P_l_closes []
  g_l_closes : mg "_law_closes" = some (.ref a_l_closes)
  k_l_closes : PySem.W.keepIn K (.ref a_l_closes) = true
  (a_l_true : Addr) (d_l_true : FuncData)
  F_l_true : Fun K "_law_true" "_law_true" s_l_true a_l_true d_l_true
  b_l_true : Binds K d_l_true P_l_true []
  g_l_true : mg "_law_true" = some (.ref a_l_true)
  k_l_true : PySem.W.keepIn K (.ref a_l_true) = true
  (a_l_days : Addr) (d_l_days : FuncData)
  F_l_days : Fun K "_law_days" "_law_days" s_l_days a_l_days d_l_days
  b_l_days : Binds K d_l_days P_l_days []
  g_l_days : mg "_law_days" = some (.ref a_l_days)
  k_l_days : PySem.W.keepIn K (.ref a_l_days) = true
  (a_l_changed : Addr) (d_l_changed : FuncData)
  F_l_changed : Fun K "_law_changed" "_law_changed" s_l_changed a_l_changed d_l_changed
  b_l_changed : Binds K d_l_changed P_l_changed []
  g_l_changed : mg "_law_changed" = some (.ref a_l_changed)
  k_l_changed : PySem.W.keepIn K (.ref a_l_changed) = true
  (a_l_ring_office : Addr) (d_l_ring_office : FuncData)
  F_l_ring_office : Fun K "_law_ring_office" "_law_ring_office" s_l_ring_office a_l_ring_office d_l_ring_office
  b_l_ring_office : Binds K d_l_ring_office P_l_ring_office []
  g_l_ring_office : mg "_law_ring_office" = some (.ref a_l_ring_office)
  k_l_ring_office : PySem.W.keepIn K (.ref a_l_ring_office) = true
  (a_l_least_parting : Addr) (d_l_least_parting : FuncData)
  F_l_least_parting : Fun K "_law_least_parting" "_law_least_parting" s_l_least_parting a_l_least_parting d_l_least_parting
  b_l_least_parting : Binds K d_l_least_parting P_l_least_parting []
  g_l_least_parting : mg "_law_least_parting" = some (.ref a_l_least_parting)
  k_l_least_parting : PySem.W.keepIn K (.ref a_l_least_parting) = true
  (a_l_two : Addr) (d_l_two : FuncData)
  F_l_two : Fun K "_law_two" "_law_two" s_l_two a_l_two d_l_two
  b_l_two : Binds K d_l_two P_l_two []
  g_l_two : mg "_law_two" = some (.ref a_l_two)
  k_l_two : PySem.W.keepIn K (.ref a_l_two) = true
  (a_law : Addr) (d_law : FuncData)
  F_law : Fun K "law" "law" s_law a_law d_law
  b_law : Binds K d_law P_law []
  g_law : mg "law" = some (.ref a_law)
  k_law : PySem.W.keepIn K (.ref a_law) = true
  (t_MOST_SIZE : Tok)
  g_MOST_SIZE : mg "MOST_SIZE" = some (.int (4) t_MOST_SIZE)
  (t_MOST_STANDINGS : Tok)
  g_MOST_STANDINGS : mg "MOST_STANDINGS" = some (.int (20) t_MOST_STANDINGS)
  (t_MOST_SETS : Tok)
  g_MOST_SETS : mg "MOST_SETS" = some (.int (60) t_MOST_SETS)
  (t_DEAD : Tok)
  g_DEAD : mg "DEAD" = some (.int (-1) t_DEAD)
  n_abs : mg "abs" = none
  n_all : mg "all" = none
  n_any : mg "any" = none
  n_bool : mg "bool" = none
  n_int : mg "int" = none
  n_isinstance : mg "isinstance" = none
  n_len : mg "len" = none
  n_list : mg "list" = none
  n_min : mg "min" = none
  n_range : mg "range" = none
  n_repr : mg "repr" = none
  n_sorted : mg "sorted" = none
  n_tuple : mg "tuple" = none
  n_zip : mg "zip" = none
  (a_Office : Addr)
  g_Office : mg "Office" = some (.ref a_Office)
  c_Office : Cls K a_Office
  m_Office : Mk K a_Office a_Office_init
  f_Office_sizes : NoAttr K a_Office "sizes"
  f_Office_moves : NoAttr K a_Office "moves"
  f_Office_closings : NoAttr K a_Office "closings"
  f_Office_kept_goals : NoAttr K a_Office "kept_goals"
  t_Office_keep : Meth K a_Office "keep" a_Office_keep
  (a_Reader : Addr)
  g_Reader : mg "Reader" = some (.ref a_Reader)
  c_Reader : Cls K a_Reader
  m_Reader : Mk K a_Reader a_Reader_init
  f_Reader_table : NoAttr K a_Reader "table"
  f_Reader_shut : NoAttr K a_Reader "shut"
  f_Reader_kept_sets : NoAttr K a_Reader "kept_sets"
  t_Reader_behind : Meth K a_Reader "behind" a_Reader_behind
  t_Reader_closes : Meth K a_Reader "closes" a_Reader_closes
  (a_Editions : Addr)
  g_Editions : mg "Editions" = some (.ref a_Editions)
  c_Editions : Cls K a_Editions
  m_Editions : Mk K a_Editions a_Editions_init
  f_Editions_readers : NoAttr K a_Editions "readers"
  f_Editions_marks : NoAttr K a_Editions "marks"
  f_Editions_met : NoAttr K a_Editions "met"
  f_Editions_layer : NoAttr K a_Editions "layer"
  t_Editions_parting : Meth K a_Editions "parting" a_Editions_parting
  t_Editions_steps_from : Meth K a_Editions "steps_from" a_Editions_steps_from
  t_Editions_advance : Meth K a_Editions "advance" a_Editions_advance
end Fd
set_option Elab.async false
set_option linter.all false
set_option maxRecDepth 100000
set_option maxHeartbeats 4000000
namespace Fd
open PySem PySem.Spec PyProof.Rows L2
/-! ### for, over items told by data -/
theorem fo_T {K : PySem.W.Frag} {α : Type} {R : V → α → Prop} {a : Addr} {vs : List V} {xs : List α} {g : TG} {tb : TS} {D : Ends} {σ : L2.St} {H : Hp} (Pv : List α → L2.St → Hp → Prop) (hp : Paired R vs xs) (h0 : Pv [] σ H)
    (hk : ∀ d σ H', Pv d σ H' → H' a = some (.tup vs)) (hs : ∀ d x r v σ H', xs = d ++ x :: r → R v x → Pv d σ H' → g v σ H' fun σ2 H2 => tb { D with nx := Pv (d ++ [x]), ct := Pv (d ++ [x]), bk := D.nx } σ2 H2)
    (hd : ∀ σ H', Pv xs σ H' → D.nx σ H') :
    ∃ W : Nat → Nat → L2.St → Hp → Prop, (∃ m, W 0 m σ H) ∧ ∀ i m σ H, W i m σ H →
      ((Itt K a).stop i H ∧ D.nx σ H) ∨ ((Itt K a).go i H ∧ ∃ N : L2.St → Hp → Prop, (∀ σ' H', N σ' H' → ∃ m', m' < m ∧ W (i + 1) m' σ' H') ∧ ∀ x H', (Itt K a).yld i H x H' → g x σ H' fun σ2 H2 => tb { D with nx := N, ct := N, bk := D.nx } σ2 H2) := by
  refine for_tup (xs := vs) (fun i σ H' => Pv (xs.take i) σ H') h0 (fun i σ H' _ p => SqT.of (hk _ _ _ p)) (fun i x σ H' e p => ?_) fun σ H' p => hd σ H' (by rw [plen hp, List.take_length] at p; exact p)
  obtain ⟨y, e2, r⟩ := pgetL hp e
  have hlt : i < xs.length := (List.getElem?_eq_some_iff.mp e2).1
  have e3 : xs[i] = y := (List.getElem?_eq_some_iff.mp e2).2
  have e4 : xs.take (i + 1) = xs.take i ++ [y] := by rw [List.take_succ, e2]; rfl
  have := hs (xs.take i) y (xs.drop (i + 1)) x σ H' (by rw [← e3, List.getElem_cons_drop, List.take_append_drop]) r p
  rw [e4]
  exact this
theorem fo_L {K : PySem.W.Frag} {α : Type} {R : V → α → Prop} {a : Addr} {vs : List V} {xs : List α} {g : TG} {tb : TS} {D : Ends} {σ : L2.St} {H : Hp} (Pv : List α → L2.St → Hp → Prop) (hp : Paired R vs xs) (h0 : Pv [] σ H)
    (hk : ∀ d σ H', Pv d σ H' → H' a = some (.lst vs)) (hs : ∀ d x r v σ H', xs = d ++ x :: r → R v x → Pv d σ H' → g v σ H' fun σ2 H2 => tb { D with nx := Pv (d ++ [x]), ct := Pv (d ++ [x]), bk := D.nx } σ2 H2)
    (hd : ∀ σ H', Pv xs σ H' → D.nx σ H') :
    ∃ W : Nat → Nat → L2.St → Hp → Prop, (∃ m, W 0 m σ H) ∧ ∀ i m σ H, W i m σ H →
      ((Itl K a).stop i H ∧ D.nx σ H) ∨ ((Itl K a).go i H ∧ ∃ N : L2.St → Hp → Prop, (∀ σ' H', N σ' H' → ∃ m', m' < m ∧ W (i + 1) m' σ' H') ∧ ∀ x H', (Itl K a).yld i H x H' → g x σ H' fun σ2 H2 => tb { D with nx := N, ct := N, bk := D.nx } σ2 H2) := by
  refine for_list (xs := vs) (fun i σ H' => Pv (xs.take i) σ H') h0 (fun i σ H' _ p => SqL.of (hk _ _ _ p)) (fun i x σ H' e p => ?_) fun σ H' p => hd σ H' (by rw [plen hp, List.take_length] at p; exact p)
  obtain ⟨y, e2, r⟩ := pgetL hp e
  have hlt : i < xs.length := (List.getElem?_eq_some_iff.mp e2).1
  have e3 : xs[i] = y := (List.getElem?_eq_some_iff.mp e2).2
  have e4 : xs.take (i + 1) = xs.take i ++ [y] := by rw [List.take_succ, e2]; rfl
  have := hs (xs.take i) y (xs.drop (i + 1)) x σ H' (by rw [← e3, List.getElem_cons_drop, List.take_append_drop]) r p
  rw [e4]
  exact this
/-- a comprehension without a test, over the items of a tuple told by data -/
theorem lc_T {K : PySem.W.Frag} {α β : Type} {R : V → α → Prop} {R' : Rl β} (sR' : Stb R') {f : α → β} {a : Addr} {vs : List V} {xs : List α} {g : TG} {te : TE} {ix : List Nat} {σ : L2.St} {H1 : Hp} {D : Addr} {Qd : Hp → Prop}
    (hn : H1 D = none) (hl : vs.length ≤ sizeLine) (hp : Paired R vs xs) (ha : H1 a = some (.tup vs))
    (hs : ∀ v x H, x ∈ xs → R v x → Ke H1 H → ∀ Q : V → Hp → Prop, (∀ w H', Ke H H' → R' H' w (f x) → Q w H') → g v (wipe σ ix) H fun σ2 H2 => wipe σ2 ix = wipe σ ix ∧ te σ2 H2 Q)
    (hd : ∀ H ws, Ke H1 H → H D = some (.lst ws) → Paired (R' H) ws (xs.map f) → Qd H) :
    ∃ W : Nat → Nat → Hp → Prop, (∃ m, W 0 m (upd H1 D (.lst []))) ∧ ∀ i m H, W i m H →
      ((Itt K a).stop i H ∧ Qd H) ∨ ((Itt K a).go i H ∧ ∃ Nx : Hp → Prop, (∀ H', Nx H' → ∃ m', m' < m ∧ W (i + 1) m' H') ∧ ∀ x H', (Itt K a).yld i H x H' → g x (wipe σ ix) H' fun σ2 H2 => wipe σ2 ix = wipe σ ix ∧ tYes σ2 H2 fun b H3 =>
        if b = true then te σ2 H3 fun y H4 => ∃ acc, H4 D = some (.lst acc) ∧ acc.length < sizeLine ∧ Nx (upd H4 D (.lst (acc ++ [y]))) else Nx H3) := by
  have el := plen hp
  refine lc_tup (xs := vs) (fun i H => Ke H1 H ∧ ∃ ws, H D = some (.lst ws) ∧ Paired (R' H) ws ((xs.take i).map f)) ⟨Ke.new hn, [], upd_same, .nil⟩ (fun i H _ p => SqT.of (p.1.at ha)) (fun i v H e p => ?_) fun H p => ?_
  · obtain ⟨k, ws, hD, pw⟩ := p
    obtain ⟨x, e2, r⟩ := pgetL hp e
    have hlt : i < vs.length := (List.getElem?_eq_some_iff.mp e).1
    have hx : x ∈ xs := List.mem_of_getElem? e2
    have e4 : (xs.take (i + 1)).map f = (xs.take i).map f ++ [f x] := by rw [List.take_succ, e2]; simp
    have lw : ws.length = i := by have := plen pw; rw [this]; simp; omega
    refine hs v x H hx r k _ fun w H' k' r' => ?_
    refine ⟨ws, k'.at hD, by omega, ?_⟩
    have kk : ∀ H2, H2 = upd H' D (.lst (ws ++ [w])) → Ke H1 H2 := fun H2 e => by
      rw [e]; exact Ks.mutNew (k.trans k') hn
    refine ⟨kk _ rfl, ws ++ [w], upd_same, ?_⟩
    rw [e4]
    have tx1 : Tx H (upd H' D (.lst (ws ++ [w]))) := ⟨fun b ys e => by rw [upd_ne (fun z => by subst z; rw [hD] at e; cases e)]; exact k'.tup b ys e⟩
    have tx2 : Tx H' (upd H' D (.lst (ws ++ [w]))) := ⟨fun b ys e => by rw [upd_ne (fun z => by subst z; rw [k'.at hD] at e; cases e)]; exact e⟩
    exact papp (pimp (fun v x r => sR' _ _ v x tx1 r) pw) (.cons (sR' _ _ _ _ tx2 r') .nil)
  · rw [el, List.take_length] at p
    obtain ⟨k, ws, hD, pw⟩ := p
    exact hd H ws k hD pw

theorem bT {p : Prop} [Decidable p] (h : p) : V.bl (decide p) = V.bl true := by rw [decide_eq_true h]
theorem bF {p : Prop} [Decidable p] (h : ¬ p) : V.bl (decide p) = V.bl false := by rw [decide_eq_false h]
theorem qT {p : Prop} [Decidable p] {Q : VK} {H : Hp} (h : p) (k : Q (.bl true) H) : Q (.bl (decide p)) H := by rw [decide_eq_true h]; exact k
theorem qF {p : Prop} [Decidable p] {Q : VK} {H : Hp} (h : ¬ p) (k : Q (.bl false) H) : Q (.bl (decide p)) H := by rw [decide_eq_false h]; exact k
theorem ifT {p A B : Prop} [Decidable p] (h : p) (k : A) : if decide p = true then A else B := by rw [decide_eq_true h]; exact iteT k
theorem ifF {p A B : Prop} [Decidable p] (h : ¬ p) (k : B) : if decide p = true then A else B := by rw [decide_eq_false h]; exact iteF k
theorem ifNT {p A B : Prop} [Decidable p] (h : p) (k : B) : if (!decide p) = true then A else B := by rw [decide_eq_true h]; exact iteF k
theorem ifNF {p A B : Prop} [Decidable p] (h : ¬ p) (k : A) : if (!decide p) = true then A else B := by rw [decide_eq_false h]; exact iteT k
theorem atI_nat {α : Type} {xs : List α} {i : Nat} {x : α} (h : xs[i]? = some x) {j : Int} (e : j = i) : atI xs j = some x := by
  subst e
  have hl : i < xs.length := (List.getElem?_eq_some_iff.mp h).1
  unfold atI ixN
  rw [if_pos (by omega), if_pos (by omega)]
  simpa using h
theorem paired_bl {H : Hp} : ∀ {vs : List V} {ns : List Bool}, Paired (BB H) vs ns → vs = ns.map V.bl
  | _, _, .nil => rfl
  | _, _, .cons h t => by
    have h' : _ = V.bl _ := h
    rw [h', paired_bl t]; rfl
/-! ### checks -/
def sp_is_integer : Sp := fun vs H Q _ => ∃ n : Int, vs = [.int n] ∧ Q (.bl true) H
def sp_is_within : Sp := fun vs H Q _ => ∃ n a b : Int, vs = [.int n, .int a, .int b] ∧ (a ≤ n ∧ n ≤ b) ∧ Q (.bl true) H
def sp_is_triple : Sp := fun vs H Q _ => ∃ a xs, vs = [.ref a] ∧ H a = some (.tup xs) ∧ xs.length = 3 ∧ Q (.bl true) H
/-- ascending: ints, or tuples of ints -/
def sp_are_ascending : Sp := fun vs H Q _ => ∃ a xs, vs = [.ref a] ∧ H a = some (.tup xs) ∧ xs.length < 1000000 ∧ ((∃ ns : List Int, Paired (II H) xs ns ∧ ns.Pairwise (· < ·)) ∨ ∃ ns : List (List Int), Paired (TI H) xs ns ∧ ns.Pairwise (· < ·)) ∧ Q (.bl true) H
/-- sizes that an office may have -/
def Sizes (sz : List Int) : Prop := sz.length = 3 ∧ ∀ x ∈ sz, 1 ≤ x ∧ x ≤ 4
/-- a move -/
def MoveOk (sz : List Int) (many : Int) (m : List Int) : Prop := ∃ a b c s n k g, sz = [a, b, c] ∧ m = [s, n, k, g] ∧ (0 ≤ s ∧ s ≤ a - 1) ∧ (0 ≤ n ∧ n ≤ b - 1) ∧ (0 ≤ k ∧ k ≤ c - 1) ∧ 0 ≤ g ∧ g ≤ many - 1
def RowOk (sz : List Int) (many : Int) (r : List (List Int)) : Prop := (∀ m ∈ r, MoveOk sz many m) ∧ r.Pairwise (· < ·) ∧ r.length < 1000000
def MovesOk (sz : List Int) (mv : List (List (List Int))) : Prop := 1 ≤ mv.length ∧ mv.length ≤ 20 ∧ ∀ r ∈ mv, RowOk sz mv.length r
def ClosOk (sz : List Int) (many : Int) (cl : List (List Int)) : Prop := (cl.length : Int) = many ∧ ∀ r ∈ cl, (∀ k ∈ r, ∃ a b c, sz = [a, b, c] ∧ 0 ≤ k ∧ k ≤ c - 1) ∧ r.Pairwise (· < ·) ∧ r.length < 1000000
abbrev MV : Rl (List (List (List Int))) := TT (TT TI)
abbrev CL : Rl (List (List Int)) := TT TI
def sp_are_sizes : Sp := fun vs H Q _ => ∃ v sz, vs = [v] ∧ TI H v sz ∧ Sizes sz ∧ ∀ H', Ke H H' → Q (.bl true) H'
def sp_is_move : Sp := fun vs H Q _ => ∃ u n v sz m, vs = [u, .int n, v] ∧ TI H u sz ∧ TI H v m ∧ MoveOk sz n m ∧ Q (.bl true) H
def sp_are_moves : Sp := fun vs H Q _ => ∃ u v sz mv, vs = [u, v] ∧ TI H u sz ∧ MV H v mv ∧ MovesOk sz mv ∧ ∀ H', Ke H H' → Q (.bl true) H'
def sp_are_closings : Sp := fun vs H Q _ => ∃ u n v sz cl, vs = [u, .int n, v] ∧ TI H u sz ∧ CL H v cl ∧ sz.length = 3 ∧ ClosOk sz n cl ∧ ∀ H', Ke H H' → Q (.bl true) H'
section
variable {P : Program} {w : World} {K : PySem.W.Frag} {mg : Str → Option Value} {base : Heap} (T : Txt K mg)
include T
theorem ok_is_integer : FnOk P w K mg base CX0 1 T.a_is_integer T.d_is_integer P_is_integer sp_is_integer := by
  refine T.F_is_integer.ok sc_is_integer (fun vs H Q E h => ?_) (fun cdv A outer s H vs Q E hr h => ?_)
  · obtain ⟨n, rfl, _⟩ := h; rfl
  · obtain ⟨n, rfl, k⟩ := h
    refine ⟨_, (pss_one (ps_ret (pe_and (pe_callB call_isi (by rfl) T.n_isinstance (by decide +kernel) (pa_cons (pv 0) (pa_cons (pe_bltn (v := .ty "int") (by rfl) T.n_int (by decide +kernel) rfl) pa_nil))) (pe_one (pe_not (pe_callB call_isi (by rfl) T.n_isinstance (by decide +kernel) (pa_cons (pv 0) (pa_cons (pe_bltn (v := .ty "bool") (by rfl) T.n_bool (by decide +kernel) rfl) pa_nil)))))))), ?_⟩
    refine ⟨_, rfl, .int n, .ty "int", .type "int", .type "int", true, rfl, .ty _, .base (.int _), by rfl, true, rfl, ?_⟩
    refine iteT ⟨_, rfl, .int n, .ty "bool", .type "int", .type "bool", false, rfl, .ty _, .base (.int _), by rfl, false, rfl, ?_⟩
    exact k
theorem ok_is_within : FnOk P w K mg base CX0 2 T.a_is_within T.d_is_within P_is_within sp_is_within := by
  refine T.F_is_within.ok sc_is_within (fun vs H Q E h => ?_) (fun cdv A outer s H vs Q E hr h => ?_)
  · obtain ⟨n, a, b, rfl, _⟩ := h; rfl
  · obtain ⟨n, a, b, rfl, c, k⟩ := h
    refine ⟨_, (pss_one (ps_ret (pe_and (pe_call (ok_is_integer T) (hr.mono (by decide)) rfl T.g_is_integer T.k_is_integer T.b_is_integer .nil pass0 (pa_cons (pv 0) pa_nil)) (pe_one (pe_chain op_le op_le (pv 1) (pv 0) (pv 2)))))), ?_⟩
    exact ⟨_, rfl, n, rfl, true, rfl, iteT ⟨_, rfl, _, rfl, _, _, rfl, rfl, true, bT c.1, iteT ⟨_, rfl, _, _, rfl, rfl, qT c.2 k⟩⟩⟩
theorem ok_is_triple : FnOk P w K mg base CX0 1 T.a_is_triple T.d_is_triple P_is_triple sp_is_triple := by
  refine T.F_is_triple.ok sc_is_triple (fun vs H Q E h => ?_) (fun cdv A outer s H vs Q E hr h => ?_)
  · obtain ⟨a, xs, rfl, _⟩ := h; rfl
  · obtain ⟨a, xs, rfl, ha, hl, k⟩ := h
    refine ⟨_, (pss_one (ps_ret (pe_and (pe_callB call_isi (by rfl) T.n_isinstance (by decide +kernel) (pa_cons (pv 0) (pa_cons (pe_bltn (v := .ty "tuple") (by rfl) T.n_tuple (by decide +kernel) rfl) pa_nil))) (pe_one (pe_cmpR op_eq (pe_callB call_len (by rfl) T.n_len (by decide +kernel) (pa_cons (pv 0) pa_nil)) pe_int (nomark _)))))), ?_⟩
    refine ⟨_, rfl, .ref a, .ty "tuple", .type "tuple", .type "tuple", true, rfl, .ty _, .base (.tup ha), by rfl, true, rfl, ?_⟩
    refine iteT ⟨_, rfl, .ref a, 3, rfl, Or.inr ⟨xs, SqT.of ha, hl.symm⟩, rfl, k⟩
theorem ok_are_ascending : FnOk P w K mg base CX0 1 T.a_are_ascending T.d_are_ascending P_are_ascending sp_are_ascending := by
  refine T.F_are_ascending.ok sc_are_ascending (fun vs H Q E h => ?_) (fun cdv A outer s H vs Q E hr h => ?_)
  · obtain ⟨a, xs, rfl, _⟩ := h; rfl
  · obtain ⟨a, xs, rfl, ha, hl, asc, k⟩ := h
    refine ⟨_, (pss_cons (ps_for PassesOwn.never rfl (pi_range2 rfl T.n_range (pa_cons pe_int (pa_cons (pe_callB call_len (by rfl) T.n_len (by decide +kernel) (pa_cons (pv 0) pa_nil)) pa_nil))) (pg_name (i := 1) sc_are_ascending.nd rfl (Or.inl rfl)) (pss_one (ps_if (pt_cmpR (op_geD hr) (pe_ix ix_tup (pv 0) (pe_op op_sub (pv 1) pe_int) (fun _ _ => rfl)) (pe_ix ix_tup (pv 0) (pv 1) (fun _ _ => rfl)) (nomark _)) (pss_one (ps_ret pe_bl)) pss_nil)))
  (pss_one (ps_ret pe_bl))), ?_⟩
    refine ⟨_, rfl, .ref a, xs.length, rfl, Or.inr ⟨xs, SqT.of ha, rfl⟩, 1, xs.length, rfl, ⟨by decide, by decide, by omega, by omega⟩, for_range (fun i σ H' => H' = H ∧ ∃ o, σ = [some (.ref a), o]) ⟨rfl, none, rfl⟩ ?_ ?_⟩
    · rintro i σ H' hi ⟨rfl, o, rfl⟩
      have h1 : i + 1 < xs.length := by omega
      have e1 : atI xs (1 + (i : Int) - 1) = some xs[i] := atI_nat (by simp) (i := i) (by omega)
      have e2 : atI xs (1 + (i : Int)) = some xs[i + 1] := atI_nat (by simp) (i := i + 1) (by omega)
      refine ⟨_, rfl, _, rfl, _, _, rfl, rfl, a, xs, _, _, rfl, rfl, SqT.of ha, e1, _, rfl, _, rfl, a, xs, _, _, rfl, rfl, SqT.of ha, e2, ?_⟩
      rcases asc with ⟨ns, pr, pw⟩ | ⟨ns, pr, pw⟩
      · obtain ⟨x, q1, r1⟩ := pgetL pr (i := i) (x := xs[i]) (by simp)
        obtain ⟨y, q2, r2⟩ := pgetL pr (i := i + 1) (x := xs[i + 1]) (by simp)
        obtain ⟨l1, q1⟩ := List.getElem?_eq_some_iff.mp q1
        obtain ⟨l2, q2⟩ := List.getElem?_eq_some_iff.mp q2
        have lt : x < y := by rw [← q1, ← q2]; exact List.pairwise_iff_getElem.mp pw i (i + 1) l1 l2 (by omega)
        exact Or.inl ⟨x, y, r1, r2, _, rfl, ifF (by omega) ⟨rfl, _, rfl⟩⟩
      · obtain ⟨x, q1, c, r1, r1'⟩ := pgetL pr (i := i) (x := xs[i]) (by simp)
        obtain ⟨y, q2, d, r2, r2'⟩ := pgetL pr (i := i + 1) (x := xs[i + 1]) (by simp)
        obtain ⟨l1, q1⟩ := List.getElem?_eq_some_iff.mp q1
        obtain ⟨l2, q2⟩ := List.getElem?_eq_some_iff.mp q2
        have lt : x < y := by rw [← q1, ← q2]; exact List.pairwise_iff_getElem.mp pw i (i + 1) l1 l2 (by omega)
        exact Or.inr ⟨c, d, x, y, r1, r2, SqT.of r1', SqT.of r2', _, rfl, ifNT lt ⟨rfl, _, rfl⟩⟩
    · rintro σ H' ⟨rfl, o, rfl⟩
      exact k
theorem ok_are_sizes : FnOk P w K mg base CX0 3 T.a_are_sizes T.d_are_sizes P_are_sizes sp_are_sizes := by
  refine T.F_are_sizes.ok sc_are_sizes (fun vs H Q E h => ?_) (fun cdv A outer s H vs Q E hr h => ?_)
  · obtain ⟨v, sz, rfl, _⟩ := h; rfl
  · obtain ⟨v, sz, rfl, ⟨a, rfl, ha⟩, hz, k⟩ := h
    refine ⟨_, (pss_one (ps_ret (pe_and (pe_call (ok_is_triple T) (hr.mono (by decide)) rfl T.g_is_triple T.k_is_triple T.b_is_triple .nil pass0 (pa_cons (pv 0) pa_nil)) (pe_one (pe_callB (cr_all rfl) (by rfl) T.n_all (by decide +kernel) (pa_cons (pe_lc (own := [("size", 1)]) rfl sc_are_sizes.nd (pi_tup (pv 0)) (blkOk_by (own := [("size", 1)]) (N := N_are_sizes) (sc := defScope s_are_sizes) (by decide +kernel)) (fun _ _ _ _ _ => (pg_name (i := 1) sc_are_sizes.nd rfl (Or.inl rfl))) (fun _ _ _ _ _ => pts_nil) (fun _ _ _ _ _ => (pe_call (ok_is_within T) (hr.mono (by decide)) rfl T.g_is_within T.k_is_within T.b_is_within .nil pass0 (pa_cons (pv 1) (pa_cons pe_int (pa_cons (pe_glob (v := .int (4)) rfl T.g_MOST_SIZE ⟨_, rfl⟩) pa_nil)))))) pa_nil)))))), ?_⟩
    refine ⟨_, rfl, a, _, rfl, ha, by simpa using hz.1, true, rfl, iteT ⟨_, rfl, a, rfl, ⟨_, SqT.of ha⟩, fun D hD => lc_T (R := II H) BB.stb (f := fun _ => true) hD (by have := hz.1; simp [sizeLine_eq]; omega) (pmap_int sz) ha ?_ ?_⟩⟩
    · rintro v x H' hx rfl k' Q' q'
      exact ⟨rfl, _, rfl, x, 1, 4, rfl, hz.2 x hx, q' _ _ .refl rfl⟩
    · intro H' ws k' hD' pw
      exact ⟨D, sz.map fun _ => true, rfl, SqL.of (by rw [hD']; exact congrArg (fun l => some (HO.lst l)) (paired_bl pw)), by rw [show ((sz.map fun _ => true).all id) = true by simp]; exact k _ k'⟩
theorem ok_is_move : FnOk P w K mg base CX0 3 T.a_is_move T.d_is_move P_is_move sp_is_move := by
  refine T.F_is_move.ok sc_is_move (fun vs H Q E h => ?_) (fun cdv A outer s H vs Q E hr h => ?_)
  · obtain ⟨u, n, v, sz, m, rfl, _⟩ := h; rfl
  · obtain ⟨u, n, v, sz, m, rfl, ⟨a, rfl, ha⟩, ⟨b, rfl, hb⟩, ⟨x, y, z, s', t, k', g, rfl, rfl, c1, c2, c3, c4⟩, k⟩ := h
    refine ⟨_, (pss_cons (ps_if (PW.pt (pw_or (pt_not (pt_val (pe_callB call_isi (by rfl) T.n_isinstance (by decide +kernel) (pa_cons (pv 2) (pa_cons (pe_bltn (v := .ty "tuple") (by rfl) T.n_tuple (by decide +kernel) rfl) pa_nil))))) (pw_or1 (pt_cmpR op_ne (pe_callB call_len (by rfl) T.n_len (by decide +kernel) (pa_cons (pv 2) pa_nil)) pe_int (nomark _))))) (pss_one (ps_ret pe_bl)) pss_nil)
  (pss_cons (ps_asg (pv 0) (pg_tup rfl (pgs_cons (pg_name (i := 3) sc_is_move.nd rfl (Or.inl rfl)) (pgs_cons (pg_name (i := 4) sc_is_move.nd rfl (Or.inl rfl)) (pgs_cons (pg_name (i := 5) sc_is_move.nd rfl (Or.inl rfl)) pgs_nil)))))
  (pss_cons (ps_if (PW.pt (pw_or (pt_not (pt_val (pe_call (ok_is_within T) (hr.mono (by decide)) rfl T.g_is_within T.k_is_within T.b_is_within .nil pass0 (pa_cons (pe_ix ix_tup (pv 2) pe_int (fun _ _ => rfl)) (pa_cons pe_int (pa_cons (pe_op op_sub (pv 3) pe_int) pa_nil)))))) (pw_or1 (pt_not (pt_val (pe_call (ok_is_within T) (hr.mono (by decide)) rfl T.g_is_within T.k_is_within T.b_is_within .nil pass0 (pa_cons (pe_ix ix_tup (pv 2) pe_int (fun _ _ => rfl)) (pa_cons pe_int (pa_cons (pe_op op_sub (pv 4) pe_int) pa_nil))))))))) (pss_one (ps_ret pe_bl)) pss_nil)
  (pss_one (ps_ret (pe_and (pe_call (ok_is_within T) (hr.mono (by decide)) rfl T.g_is_within T.k_is_within T.b_is_within .nil pass0 (pa_cons (pe_ix ix_tup (pv 2) pe_int (fun _ _ => rfl)) (pa_cons pe_int (pa_cons (pe_op op_sub (pv 5) pe_int) pa_nil)))) (pe_one (pe_call (ok_is_within T) (hr.mono (by decide)) rfl T.g_is_within T.k_is_within T.b_is_within .nil pass0 (pa_cons (pe_ix ix_tup (pv 2) pe_int (fun _ _ => rfl)) (pa_cons pe_int (pa_cons (pe_op op_sub (pv 1) pe_int) pa_nil))))))))))), ?_⟩
    refine ⟨_, rfl, .ref b, .ty "tuple", .type "tuple", .type "tuple", true, rfl, .ty _, .base (.tup hb), by rfl, true, rfl, iteF ⟨_, rfl, .ref b, 4, rfl, Or.inr ⟨_, SqT.of hb, rfl⟩, rfl, _, rfl, ifNT rfl ?_⟩⟩
    refine ⟨_, rfl, a, _, rfl, SqT.of ha, rfl, _, _, rfl, _, _, rfl, _, _, rfl, rfl, ?_⟩
    refine ⟨_, rfl, b, _, 0, _, rfl, rfl, SqT.of hb, rfl, _, rfl, _, _, rfl, rfl, s', 0, x - 1, rfl, c1, true, rfl, iteF ?_⟩
    refine ⟨_, rfl, b, _, 1, _, rfl, rfl, SqT.of hb, rfl, _, rfl, _, _, rfl, rfl, t, 0, y - 1, rfl, c2, true, rfl, iteF ?_⟩
    refine ⟨_, rfl, b, _, 2, _, rfl, rfl, SqT.of hb, rfl, _, rfl, _, _, rfl, rfl, k', 0, z - 1, rfl, c3, true, rfl, iteT ?_⟩
    exact ⟨_, rfl, b, _, 3, _, rfl, rfl, SqT.of hb, rfl, _, rfl, _, _, rfl, rfl, g, 0, n - 1, rfl, c4, k⟩
theorem ok_are_moves : FnOk P w K mg base CX0 4 T.a_are_moves T.d_are_moves P_are_moves sp_are_moves := by
  refine T.F_are_moves.ok sc_are_moves (fun vs H Q E h => ?_) (fun cdv A outer s H vs Q E hr h => ?_)
  · obtain ⟨u, v, sz, mv, rfl, _⟩ := h; rfl
  · obtain ⟨u, v, sz, mv, rfl, ⟨a, rfl, ha⟩, ⟨b, vs, rfl, hb, pb⟩, hm, k⟩ := h
    have el := plen pb
    refine ⟨_, (pss_cons (ps_if (PW.pt (pw_or (pt_not (pt_val (pe_callB call_isi (by rfl) T.n_isinstance (by decide +kernel) (pa_cons (pv 1) (pa_cons (pe_bltn (v := .ty "tuple") (by rfl) T.n_tuple (by decide +kernel) rfl) pa_nil))))) (pw_or1 (pt_not (pt_chain op_le op_le pe_int (pe_callB call_len (by rfl) T.n_len (by decide +kernel) (pa_cons (pv 1) pa_nil)) (pe_glob (v := .int (20)) rfl T.g_MOST_STANDINGS ⟨_, rfl⟩)))))) (pss_one (ps_ret pe_bl)) pss_nil)
  (pss_cons (ps_for PassesOwn.never rfl (pi_tup (pv 1)) (pg_name (i := 2) sc_are_moves.nd rfl (Or.inl rfl)) (pss_cons (ps_if (PW.pt (pw_or (pt_not (pt_val (pe_callB call_isi (by rfl) T.n_isinstance (by decide +kernel) (pa_cons (pv 2) (pa_cons (pe_bltn (v := .ty "tuple") (by rfl) T.n_tuple (by decide +kernel) rfl) pa_nil))))) (pw_or1 (pt_not (pt_val (pe_callB (cr_all rfl) (by rfl) T.n_all (by decide +kernel) (pa_cons (pe_lc (own := [("move", 3)]) rfl sc_are_moves.nd (pi_tup (pv 2)) (blkOk_by (own := [("move", 3)]) (N := N_are_moves) (sc := defScope s_are_moves) (by decide +kernel)) (fun _ _ _ _ _ => (pg_name (i := 3) sc_are_moves.nd rfl (Or.inl rfl))) (fun _ _ _ _ _ => pts_nil) (fun _ _ _ _ _ => (pe_call (ok_is_move T) (hr.mono (by decide)) rfl T.g_is_move T.k_is_move T.b_is_move .nil pass0 (pa_cons (pv 0) (pa_cons (pe_callB (lenK K rfl) (by rfl) T.n_len (by decide +kernel) (pa_cons (pv 1) pa_nil)) (pa_cons (pv 3) pa_nil)))))) pa_nil))))))) (pss_one (ps_ret pe_bl)) pss_nil)
  (pss_one (ps_if (pt_not (pt_val (pe_call (ok_are_ascending T) (hr.mono (by decide)) rfl T.g_are_ascending T.k_are_ascending T.b_are_ascending .nil pass0 (pa_cons (pv 2) pa_nil)))) (pss_one (ps_ret pe_bl)) pss_nil))))
  (pss_one (ps_ret pe_bl)))), ?_⟩
    refine ⟨_, rfl, .ref b, .ty "tuple", .type "tuple", .type "tuple", true, rfl, .ty _, .base (.tup hb), by rfl, true, rfl, iteF ⟨_, rfl, .ref b, vs.length, rfl, Or.inr ⟨_, SqT.of hb, rfl⟩, _, _, rfl, rfl, true, bT (by have := hm.1; omega), iteT ⟨_, _, rfl, rfl, _, rfl, ?_⟩⟩⟩
    refine ifNT (by have := hm.2.1; omega) ?_
    refine ⟨_, rfl, b, rfl, ⟨_, SqT.of hb⟩, fo_T (R := TT TI H) (fun d σ H' => Ke H H' ∧ ∃ o o', σ = [some (.ref a), some (.ref b), o, o']) pb ⟨.refl, _, _, rfl⟩ (fun d σ H' p => p.1.at hb) ?_ ?_⟩
    · rintro d x r v σ H1 e ⟨c, ws, rfl, hc, pc⟩ ⟨k1, o, o', rfl⟩
      have hx : RowOk sz mv.length x := hm.2.2 x (by rw [e]; simp)
      have hc1 := k1.at hc
      have pc1 : Paired (TI H1) ws x := pimp (fun v x q => TI.stb _ _ v x k1.tx q) pc
      have lw := plen pc1
      refine ⟨_, rfl, .ref c, .ty "tuple", .type "tuple", .type "tuple", true, rfl, .ty _, .base (.tup hc1), by rfl, true, rfl, iteF ?_⟩
      refine ⟨_, rfl, c, rfl, ⟨_, SqT.of hc1⟩, fun D hD => lc_T (R := TI H1) BB.stb (f := fun _ => true) hD (by have := hx.2.2; simp [sizeLine_eq]; omega) pc1 hc1 ?_ ?_⟩
      · intro v m H2 hmm rm k2 Q' q'
        exact ⟨rfl, _, rfl, _, rfl, .ref b, vs.length, rfl, Or.inr ⟨_, SqT.of (Ke.at (k1.trans k2) hb), rfl⟩, _, rfl, _, _, _, sz, m, rfl, ⟨a, rfl, Ke.at (k1.trans k2) ha⟩, TI.stb _ _ _ _ k2.tx rm, (by rw [el]; exact hx.1 m hmm), q' _ _ .refl rfl⟩
      · intro H2 ws2 k2 hD2 pw2
        refine ⟨D, x.map fun _ => true, rfl, SqL.of (by rw [hD2]; exact congrArg (fun l => some (HO.lst l)) (paired_bl pw2)), _, rfl, ?_⟩
        rw [show ((x.map fun _ => true).all id) = true by simp]
        refine iteF ⟨_, rfl, c, ws, rfl, k2.at hc1, (by have := hx.2.2; omega), Or.inr ⟨x, pimp (fun v x q => TI.stb _ _ v x k2.tx q) pc1, hx.2.1⟩, _, rfl, iteF ⟨k1.trans k2, _, _, rfl⟩⟩
    · rintro σ H1 ⟨k1, o, o', rfl⟩
      exact k _ k1
theorem ok_are_closings : FnOk P w K mg base CX0 3 T.a_are_closings T.d_are_closings P_are_closings sp_are_closings := by
  refine T.F_are_closings.ok sc_are_closings (fun vs H Q E h => ?_) (fun cdv A outer s H vs Q E hr h => ?_)
  · obtain ⟨u, n, v, sz, cl, rfl, _⟩ := h; rfl
  · obtain ⟨u, n, v, sz, cl, rfl, ⟨a, rfl, ha⟩, ⟨b, vs, rfl, hb, pb⟩, h3, hm, k⟩ := h
    have el := plen pb
    refine ⟨_, (pss_cons (ps_if (PW.pt (pw_or (pt_not (pt_val (pe_callB call_isi (by rfl) T.n_isinstance (by decide +kernel) (pa_cons (pv 2) (pa_cons (pe_bltn (v := .ty "tuple") (by rfl) T.n_tuple (by decide +kernel) rfl) pa_nil))))) (pw_or1 (pt_cmpR op_ne (pe_callB call_len (by rfl) T.n_len (by decide +kernel) (pa_cons (pv 2) pa_nil)) (pv 1) (nomark _))))) (pss_one (ps_ret pe_bl)) pss_nil)
  (pss_cons (ps_for PassesOwn.never rfl (pi_tup (pv 2)) (pg_name (i := 3) sc_are_closings.nd rfl (Or.inl rfl)) (pss_cons (ps_if (PW.pt (pw_or (pt_not (pt_val (pe_callB call_isi (by rfl) T.n_isinstance (by decide +kernel) (pa_cons (pv 3) (pa_cons (pe_bltn (v := .ty "tuple") (by rfl) T.n_tuple (by decide +kernel) rfl) pa_nil))))) (pw_or1 (pt_not (pt_val (pe_callB (cr_all rfl) (by rfl) T.n_all (by decide +kernel) (pa_cons (pe_lc (own := [("mark", 4)]) rfl sc_are_closings.nd (pi_tup (pv 3)) (blkOk_by (own := [("mark", 4)]) (N := N_are_closings) (sc := defScope s_are_closings) (by decide +kernel)) (fun _ _ _ _ _ => (pg_name (i := 4) sc_are_closings.nd rfl (Or.inl rfl))) (fun _ _ _ _ _ => pts_nil) (fun _ _ _ _ _ => (pe_call (ok_is_within T) (hr.mono (by decide)) rfl T.g_is_within T.k_is_within T.b_is_within .nil pass0 (pa_cons (pv 4) (pa_cons pe_int (pa_cons (pe_op op_sub (pe_ix (ix_tupK K rfl) (pv 0) pe_int (fun _ _ => rfl)) pe_int) pa_nil)))))) pa_nil))))))) (pss_one (ps_ret pe_bl)) pss_nil)
  (pss_one (ps_if (pt_not (pt_val (pe_call (ok_are_ascending T) (hr.mono (by decide)) rfl T.g_are_ascending T.k_are_ascending T.b_are_ascending .nil pass0 (pa_cons (pv 3) pa_nil)))) (pss_one (ps_ret pe_bl)) pss_nil))))
  (pss_one (ps_ret pe_bl)))), ?_⟩
    refine ⟨_, rfl, .ref b, .ty "tuple", .type "tuple", .type "tuple", true, rfl, .ty _, .base (.tup hb), by rfl, true, rfl, iteF ⟨_, rfl, .ref b, vs.length, rfl, Or.inr ⟨_, SqT.of hb, rfl⟩, _, rfl, rfl, _, rfl, ?_⟩⟩
    refine ifNT (by rw [el, hm.1]) ?_
    refine ⟨_, rfl, b, rfl, ⟨_, SqT.of hb⟩, fo_T (R := TI H) (fun d σ H' => Ke H H' ∧ ∃ o o', σ = [some (.ref a), some (.int n), some (.ref b), o, o']) pb ⟨.refl, _, _, rfl⟩ (fun d σ H' p => p.1.at hb) ?_ ?_⟩
    · rintro d x r v σ H1 e ⟨c, rfl, hc⟩ ⟨k1, o, o', rfl⟩
      have hx := hm.2 x (by rw [e]; simp)
      have hc1 := k1.at hc
      refine ⟨_, rfl, .ref c, .ty "tuple", .type "tuple", .type "tuple", true, rfl, .ty _, .base (.tup hc1), by rfl, true, rfl, iteF ?_⟩
      refine ⟨_, rfl, c, rfl, ⟨_, SqT.of hc1⟩, fun D hD => lc_T (R := II H1) BB.stb (f := fun _ => true) hD (by have := hx.2.2; simp [sizeLine_eq]; omega) (pmap_int x) hc1 ?_ ?_⟩
      · rintro v m H2 hmm rfl k2 Q' q'
        obtain ⟨p, q, z, rfl, c1, c2⟩ := hx.1 m hmm
        exact ⟨rfl, _, rfl, _, rfl, a, _, 2, _, rfl, rfl, SqT.of (Ke.at (k1.trans k2) ha), rfl, _, _, rfl, rfl, m, 0, z - 1, rfl, ⟨c1, c2⟩, q' _ _ .refl rfl⟩
      · intro H2 ws2 k2 hD2 pw2
        refine ⟨D, x.map fun _ => true, rfl, SqL.of (by rw [hD2]; exact congrArg (fun l => some (HO.lst l)) (paired_bl pw2)), _, rfl, ?_⟩
        rw [show ((x.map fun _ => true).all id) = true by simp]
        refine iteF ⟨_, rfl, c, _, rfl, k2.at hc1, (by have := hx.2.2; simp; omega), Or.inl ⟨x, pmap_int x, hx.2.1⟩, _, rfl, iteF ⟨k1.trans k2, _, _, rfl⟩⟩
    · rintro σ H1 ⟨k1, o, o', rfl⟩
      exact k _ k1
end
end Fd
set_option Elab.async false
set_option linter.all false
set_option maxRecDepth 100000
set_option maxHeartbeats 4000000
namespace Fd
open PySem PySem.Spec PyProof.Rows L2
/-! ### a heap without what may change -/
open Classical in
noncomputable def Hd (S : Addr → Prop) (H : Hp) : Hp := fun a => if S a then none else H a
section
variable {S : Addr → Prop} {H H' : Hp} {a : Addr} {o : HO}
theorem Hd.at (h : Hd S H a = some o) : ¬ S a ∧ H a = some o := by
  unfold Hd at h
  by_cases c : S a
  · rw [if_pos c] at h; cases h
  · rw [if_neg c] at h; exact ⟨c, h⟩
theorem Hd.get (c : ¬ S a) (h : H a = some o) : Hd S H a = some o := by
  unfold Hd; rw [if_neg c]; exact h
theorem Hd.sub (a : Addr) (o : HO) (h : Hd S H a = some o) : H a = some o := (Hd.at h).2
theorem Hd.ke (k : Ks S H H') : Ke (Hd S H) (Hd S H') := Ke.of fun a o h => Hd.get (Hd.at h).1 (k.keep a o (Hd.at h).1 (Hd.at h).2)
theorem Hd.tx (k : Tx H H') : Tx (Hd S H) (Hd S H') := ⟨fun a xs h => Hd.get (Hd.at h).1 (k.tup a xs (Hd.at h).2)⟩
theorem Hd.anti {S' : Addr → Prop} (h : ∀ a, S a → S' a) : ∀ a o, Hd S' H a = some o → Hd S H a = some o := fun a o e => Hd.get (fun z => (Hd.at e).1 (h a z)) (Hd.at e).2
theorem Hd.no : Hd No H = H := by
  funext a; unfold Hd; rw [if_neg (fun z => z)]
end
/-- a smaller heap: what it tells holds in the greater one -/
abbrev Le (H H' : Hp) : Prop := ∀ a o, H a = some o → H' a = some o
theorem Le.ke {H H' : Hp} (h : Le H H') : Ke H H' := Ke.of h
theorem Hd.le {S : Addr → Prop} {H : Hp} : Le (Hd S H) H := Hd.sub

/-! ### the office -/
abbrev keyI (ns : List Int) : List Key := ns.map Sum.inl
theorem keyI_kV (ns : List Int) : (keyI ns).map kV = ns.map V.int := by
  rw [List.map_map]; rfl
theorem keyI_inj {ns ms : List Int} (h : keyI ns = keyI ms) : ns = ms := (List.map_inj_right (fun _ _ e => Sum.inl.inj e)).mp h
def goalsIn (row : List (List Int)) (st : List Int) : List Int := row.filterMap fun m => if m.take 3 = st then m[3]? else none
theorem goalsIn_snoc (row : List (List Int)) (s n k g : Int) (st : List Int) : goalsIn (row ++ [[s, n, k, g]]) st = if [s, n, k] = st then goalsIn row st ++ [g] else goalsIn row st := by
  unfold goalsIn
  rw [List.filterMap_append]
  by_cases c : [s, n, k] = st
  · rw [if_pos c]; simp [c]
  · rw [if_neg c]; simp [c]
/-- the goals of a row, by steps -/
def GA (H : Hp) (kvs : List (List Key × V)) (row : List (List Int)) : Prop := kvs.length ≤ row.length ∧
  ∀ st : List Int, (valV kvs (keyI st) = none ∧ goalsIn row st = []) ∨ ∃ li, valV kvs (keyI st) = some (.ref li) ∧ H li = some (.lst ((goalsIn row st).map V.int))
def Kept : Rl (List (List Int)) := fun H v row => ∃ d kvs, v = .ref d ∧ H d = some (.dT kvs) ∧ GA H kvs row
theorem Kept.sto : Sto Kept := fun H H' v row k ⟨d, kvs, e, hd, l, g⟩ => ⟨d, kvs, e, k.at hd, l, fun st => (g st).imp id fun ⟨li, h1, h2⟩ => ⟨li, h1, k.at h2⟩⟩
/-- .. while it is made -/
def GAi (H1 H : Hp) (g : Addr) (kvs : List (List Key × V)) (row : List (List Int)) : Prop := kvs.length ≤ row.length ∧
  (∀ st : List Int, (valV kvs (keyI st) = none ∧ goalsIn row st = []) ∨ ∃ li, valV kvs (keyI st) = some (.ref li) ∧ H1 li = none ∧ li ≠ g ∧ H li = some (.lst ((goalsIn row st).map V.int))) ∧
  ∀ st st' li, valV kvs (keyI st) = some (.ref li) → valV kvs (keyI st') = some (.ref li) → st = st'
theorem GAi.nil {H1 H : Hp} {g : Addr} : GAi H1 H g [] [] := ⟨Nat.le_refl _, fun st => .inl ⟨rfl, rfl⟩, fun st st' li h => by cases h⟩
theorem GAi.old {H1 H H2 : Hp} {g li : Addr} {kvs : List (List Key × V)} {row : List (List Int)} {s n k go : Int} (x : GAi H1 H g kvs row) (h : valV kvs (keyI [s, n, k]) = some (.ref li)) (hk : ∀ a xs, a ≠ li → H a = some (.lst xs) → H2 a = some (.lst xs))
    (h2 : H2 li = some (.lst ((goalsIn row [s, n, k] ++ [go]).map V.int))) : GAi H1 H2 g kvs (row ++ [[s, n, k, go]]) := by
  obtain ⟨x1, x2, x3⟩ := x
  refine ⟨by simp; omega, fun st => ?_, x3⟩
  rw [goalsIn_snoc]
  by_cases c : [s, n, k] = st
  · subst c
    rcases x2 [s, n, k] with ⟨z, _⟩ | ⟨l', h1, h3, h4, _⟩
    · rw [z] at h; cases h
    · rw [h1] at h; cases h
      exact .inr ⟨li, h1, h3, h4, by rw [if_pos rfl]; exact h2⟩
  · rw [if_neg c]
    rcases x2 st with z | ⟨l', h1, h3, h4, h5⟩
    · exact .inl z
    · refine .inr ⟨l', h1, h3, h4, hk l' _ (fun e => ?_) h5⟩
      subst e
      exact c (x3 _ _ _ h h1)
theorem GAi.new {H1 H H2 : Hp} {g li : Addr} {kvs : List (List Key × V)} {row : List (List Int)} {s n k go : Int} (x : GAi H1 H g kvs row) (h : valV kvs (keyI [s, n, k]) = none) (hl : H li = none) (hl1 : H1 li = none) (hg : li ≠ g) (hk : ∀ a xs, a ≠ li → a ≠ g → H a = some (.lst xs) → H2 a = some (.lst xs))
    (h2 : H2 li = some (.lst [V.int go])) : GAi H1 H2 g (putK kvs (keyI [s, n, k]) (.ref li)) (row ++ [[s, n, k, go]]) := by
  obtain ⟨x1, x2, x3⟩ := x
  have old : ∀ st l', valV kvs (keyI st) = some (.ref l') → l' ≠ li := fun st l' e z => by
    subst z
    rcases x2 st with ⟨q, _⟩ | ⟨m, h1, _, _, h5⟩
    · rw [q] at e; cases e
    · rw [h1] at e; cases e; rw [hl] at h5; cases h5
  refine ⟨Nat.le_trans (length_putK _ _ _) (by simp; omega), fun st => ?_, fun st st' l' e1 e2 => ?_⟩
  · rw [goalsIn_snoc, valV_put]
    by_cases c : [s, n, k] = st
    · subst c
      rw [if_pos rfl, if_pos rfl]
      rcases x2 [s, n, k] with ⟨_, z⟩ | ⟨l', h1, _⟩
      · exact .inr ⟨li, rfl, hl1, hg, by rw [z]; exact h2⟩
      · rw [h] at h1; cases h1
    · rw [if_neg c, if_neg (fun z => c (keyI_inj z).symm)]
      rcases x2 st with z | ⟨l', h1, h3, h4, h5⟩
      · exact .inl z
      · exact .inr ⟨l', h1, h3, h4, hk l' _ (old st l' h1) h4 h5⟩
  · rw [valV_put] at e1 e2
    by_cases c1 : keyI st = keyI [s, n, k] <;> by_cases c2 : keyI st' = keyI [s, n, k]
    · exact (keyI_inj c1).trans (keyI_inj c2).symm
    · rw [if_pos c1] at e1; rw [if_neg c2] at e2; cases e1
      exact absurd rfl (old _ _ e2)
    · rw [if_neg c1] at e1; rw [if_pos c2] at e2; cases e2
      exact absurd rfl (old _ _ e1)
    · rw [if_neg c1] at e1; rw [if_neg c2] at e2
      exact x3 _ _ _ e1 e2

/-- what a class of offices must have -/
structure OC (K : PySem.W.Frag) (C : Addr) : Prop where
  c : Cls K C
  n1 : NoAttr K C "sizes"
  n2 : NoAttr K C "moves"
  n3 : NoAttr K C "closings"
  n4 : NoAttr K C "kept_goals"
def offF (vs vm vc vk : V) : List (Str × V) := putF "kept_goals" vk (putF "closings" vc (putF "moves" vm (putF "sizes" vs [])))
section
variable (vs vm vc vk : V)
theorem offF_s : (offF vs vm vc vk).lookup ("sizes" : Str) = some vs := by
  unfold offF
  rw [lookup_putF, if_neg (by decide +kernel), lookup_putF, if_neg (by decide +kernel), lookup_putF, if_neg (by decide +kernel), lookup_putF, if_pos rfl]
theorem offF_m : (offF vs vm vc vk).lookup ("moves" : Str) = some vm := by
  unfold offF
  rw [lookup_putF, if_neg (by decide +kernel), lookup_putF, if_neg (by decide +kernel), lookup_putF, if_pos rfl]
theorem offF_c : (offF vs vm vc vk).lookup ("closings" : Str) = some vc := by
  unfold offF
  rw [lookup_putF, if_neg (by decide +kernel), lookup_putF, if_pos rfl]
theorem offF_k : (offF vs vm vc vk).lookup ("kept_goals" : Str) = some vk := by
  unfold offF
  rw [lookup_putF, if_pos rfl]
end
/-- an office stands at p -/
structure OffAt (C : Addr) (H : Hp) (p : Addr) (sz : List Int) (mv : List (List (List Int))) (cl : List (List Int)) : Prop where
  ex : ∃ dx vs vm vc l ds, H p = some (.ins C dx (offF vs vm vc (.ref l))) ∧ TI H vs sz ∧ MV H vm mv ∧ CL H vc cl ∧ H l = some (.lst ds) ∧ Paired (Kept H) ds mv
theorem OffAt.ke {C : Addr} {H H' : Hp} {p : Addr} {sz : List Int} {mv : List (List (List Int))} {cl : List (List Int)} (x : OffAt C H p sz mv cl) (k : Ke H H') : OffAt C H' p sz mv cl := by
  obtain ⟨dx, vs, vm, vc, l, ds, h1, h2, h3, h4, h5, h6⟩ := x.ex
  exact ⟨dx, vs, vm, vc, l, ds, k.at h1, TI.stb _ _ _ _ k.tx h2, TT.stb (TT.stb TI.stb) _ _ _ _ k.tx h3, TT.stb TI.stb _ _ _ _ k.tx h4, k.at h5, pimp (fun v x r => Kept.sto _ _ v x k r) h6⟩
/-- rows whose moves have four parts -/
def Fours (mv : List (List (List Int))) : Prop := ∀ r ∈ mv, r.length < 1000000 ∧ ∀ m ∈ r, m.length = 4
/-- keep(sizes, moves, closings) of an object at p; S: what the office must not lean on -/
def sp_keep (K : PySem.W.Frag) : Sp := fun xs H Q _ => ∃ S C p dx vs vm vc sz mv cl, xs = [.ref p, vs, vm, vc] ∧ OC K C ∧ H p = some (.ins C dx []) ∧ ¬ S p ∧ (∀ a, S a → H a ≠ none) ∧ TI (Hd S H) vs sz ∧ MV (Hd S H) vm mv ∧ CL (Hd S H) vc cl ∧ Fours mv ∧ mv.length < 1000000 ∧
  ∀ H', Ks (· = p) H H' → OffAt C (Hd S H') p sz mv cl → Q .non H'
section
variable {P : Program} {w : World} {K : PySem.W.Frag} {mg : Str → Option Value} {base : Heap} (T : Txt K mg)
include T
theorem Txt.oc : OC K T.a_Office := ⟨T.c_Office, T.f_Office_sizes, T.f_Office_moves, T.f_Office_closings, T.f_Office_kept_goals⟩
omit T in
theorem ok_keep {f : Addr} {fd : FuncData} (F : Fun K "keep" "Office.keep" s_Office_keep f fd) : FnOk P w K mg base CX0 1 f fd P_Office_keep (sp_keep K) := by
  refine F.ok sc_Office_keep (fun vs H Q E h => ?_) (fun cdv A outer s H vs Q E hr h => ?_)
  · obtain ⟨S, C, p, dx, vs, vm, vc, sz, mv, cl, rfl, _⟩ := h; rfl
  · obtain ⟨S, C, p, dx, vs, vm, vc, sz, mv, cl, rfl, oc, hp, sp, hS, hs, ⟨m, ms, rfl, hm, pm⟩, hc, f4, lm, k⟩ := h
    have hu := hu_of hr
    have oc' := oc
    obtain ⟨c, n1, n2, n3, n4⟩ := oc
    have elm := plen pm
    refine ⟨_, (pss_cons (ps_fld (pv 0) (pv 1) rfl)
  (pss_cons (ps_fld (pv 0) (pv 2) rfl)
  (pss_cons (ps_fld (pv 0) (pv 3) rfl)
  (pss_cons (ps_fld (pv 0) (pe_lst pa_nil) rfl)
  (pss_one (ps_for PassesOwn.never rfl (pi_tup (pv 2)) (pg_name (i := 4) sc_Office_keep.nd rfl (Or.inl rfl)) (pss_cons (ps_set (i := 5) sc_Office_keep.nd rfl (Or.inl rfl) pe_dnewT)
  (pss_cons (ps_for PassesOwn.never rfl (pi_tup (pv 4)) (pg_tup rfl (pgs_cons (pg_name (i := 6) sc_Office_keep.nd rfl (Or.inl rfl)) (pgs_cons (pg_name (i := 7) sc_Office_keep.nd rfl (Or.inl rfl)) (pgs_cons (pg_name (i := 8) sc_Office_keep.nd rfl (Or.inl rfl)) (pgs_cons (pg_name (i := 9) sc_Office_keep.nd rfl (Or.inl rfl)) pgs_nil))))) (pss_one (ps_expr (pe_bm PySem.F.plainAttrs_list PySem.F.slot_list_append PySem.F.type_list_append mt_append (pe_dsetdT hu (pv 5) (pe_tup (pa_cons (pv 6) (pa_cons (pv 7) (pa_cons (pv 8) pa_nil)))) (pe_lst pa_nil) ⟨rfl, rfl, rfl, rfl⟩) (pa_cons (pv 9) pa_nil)))))
  (pss_one (ps_expr (pe_bm PySem.F.plainAttrs_list PySem.F.slot_list_append PySem.F.type_list_append mt_append (pe_fld (pv 0) rfl) (pa_cons (pv 5) pa_nil)))))))))))), ?_⟩
    refine ⟨_, rfl, _, rfl, p, C, dx, [], rfl, hp, c, n1, by decide, _, rfl, _, rfl, p, C, dx, _, rfl, upd_same, c, n2, (by show 1 < 1000; decide), _, rfl, _, rfl, p, C, dx, _, rfl, upd_same, c, n3, (by show 2 < 1000; decide), ?_⟩
    rw [upd_upd, upd_upd]
    refine ⟨by decide, fun l hl => ?_⟩
    have npl : p ≠ l := fun z => by rw [← z, upd_same] at hl; cases hl
    have hl0 : H l = none := by rw [upd_ne npl.symm] at hl; exact hl
    refine ⟨_, rfl, p, C, dx, _, rfl, by rw [upd_ne npl, upd_same], c, n4, (by show 3 < 1000; decide), ?_⟩
    -- the heap with the four attributes
    generalize hH1 : upd (upd (upd H p _) l (.lst [])) p _ = H1
    have h1p : H1 p = some (.ins C dx (offF vs (.ref m) vc (.ref l))) := by rw [← hH1]; exact upd_same
    have h1l : H1 l = some (.lst []) := by rw [← hH1, upd_ne npl.symm, upd_same]
    have k1 : Ks (· = p) H H1 := by
      rw [← hH1]
      refine ((Ks.mut (S := (· = p)) .refl rfl (fun xs e => ?_)).mutNew hl0).mut rfl (fun xs e => ?_)
      · rw [hp] at e; cases e
      · rw [upd_ne npl, upd_same] at e; cases e
    have hmH := (Hd.at hm).2
    have hm1 : H1 m = some (.tup ms) := k1.tup _ _ hmH
    have new : ∀ a, H a = none → ¬ S a := fun a e z => hS a z e
    refine ⟨_, rfl, m, rfl, ⟨_, SqT.of hm1⟩, fo_T (R := TT TI (Hd S H)) (fun d σ H' => (∃ o1 o2 o3 o4 o5 o6, σ = [some (.ref p), some vs, some (.ref m), some vc, o1, o2, o3, o4, o5, o6]) ∧ Ks (fun a => a = p) H H' ∧ H' m = some (.tup ms) ∧ H' p = some (.ins C dx (offF vs (.ref m) vc (.ref l))) ∧
        ∃ ds, H' l = some (.lst ds) ∧ Paired (Kept (Hd (fun a => S a ∨ a = l) H')) ds d) pm ⟨⟨_, _, _, _, _, _, rfl⟩, k1, hm1, h1p, [], h1l, .nil⟩ (fun d σ H' p => p.2.2.1) ?_ ?_⟩
    · rintro d x r v σ H2 e ⟨rw, ws, rfl, hrw, prw⟩ ⟨⟨o1, o2, o3, o4, o5, o6, rfl⟩, k2, hm2, hp2, ds, hl2, pd⟩
      have hrw2 : H2 rw = some (.tup ws) := k2.tup _ _ (Hd.at hrw).2
      have fx := f4 x (by rw [e]; simp)
      have lx := plen prw
      -- goals = {}
      intro g hg
      refine ⟨_, rfl, rw, rfl, ⟨_, SqT.of ((Ke.new hg).at hrw2)⟩, fo_T (R := TI (Hd S H)) (fun e σ H' => (∃ o3 o4 o5 o6, σ = [some (.ref p), some vs, some (.ref m), some vc, some (.ref rw), some (.ref g), o3, o4, o5, o6]) ∧ Ke H2 H' ∧
          ∃ kvs, H' g = some (.dT kvs) ∧ GAi H2 H' g kvs e) prw ⟨⟨_, _, _, _, rfl⟩, Ke.new hg, [], upd_same, .nil⟩ (fun d σ H' p => p.2.1.at hrw2) ?_ ?_⟩
      · rintro e' y r' v' σ' H3 ey ⟨b, rfl, hb⟩ ⟨⟨o3, o4, o5, o6, rfl⟩, k3, kvs, hg3, ga⟩
        have hb3 : H3 b = some (.tup (y.map V.int)) := k3.at (k2.tup _ _ (Hd.at hb).2)
        have ly := fx.2 y (by rw [ey]; simp)
        obtain ⟨s', n', k', go, rfl⟩ : ∃ s' n' k' go, y = [s', n', k', go] := by
          match y, ly with
          | [s', n', k', go], _ => exact ⟨_, _, _, _, rfl⟩
        have lk : kvs.length < 1000000 := by have := ga.1; rw [ey] at fx; simp at fx; omega
        refine ⟨b, _, rfl, SqT.of hb3, rfl, _, _, rfl, _, _, rfl, _, _, rfl, _, _, rfl, rfl, ?_⟩
        -- goals.setdefault((slip, answer, mark), []).append(goal)
        refine ⟨_, rfl, g, rfl, .inr ⟨_, .inl hg3⟩, _, rfl, _, rfl, _, rfl, (by show 3 ≤ sizeLine; decide), fun t ht => ⟨(by show 0 ≤ sizeLine; decide), fun li hli => ?_⟩⟩
        have k4 : Ke H3 (upd (upd H3 t (.tup [.int s', .int n', .int k'])) li (.lst [])) := (Ke.new ht).trans (Ke.new hli)
        have hg4 := k4.at hg3
        have nlt : li ≠ t := fun z => by rw [z, upd_same] at hli; cases hli
        have hli3 : H3 li = none := by
          rw [upd_ne nlt] at hli; exact hli
        have hli2 : H2 li = none := k3.free hli3
        have ngl : li ≠ g := (ne_of_none hg3 hli3).symm
        refine ⟨kvs, keyI [s', n', k'], t, hg4, rfl, by rw [upd_ne nlt.symm, upd_same, keyI_kV]; rfl, by rw [sizeLine_eq]; omega, fun v0 hv0 => ?_, fun hn0 => ?_⟩
        · obtain ⟨lo, e1, e2, e3, e4⟩ : ∃ lo, v0 = .ref lo ∧ H2 lo = none ∧ lo ≠ g ∧ H3 lo = some (.lst ((goalsIn e' [s', n', k']).map V.int)) := by
            rcases ga.2.1 [s', n', k'] with ⟨z, _⟩ | ⟨lo, z1, z2, z3, z4⟩
            · rw [hv0] at z; cases z
            · rw [hv0] at z1; cases z1; exact ⟨lo, rfl, z2, z3, z4⟩
          subst e1
          have hlen : (goalsIn e' [s', n', k']).length ≤ e'.length := List.length_filterMap_le _ _
          refine ⟨.inl ⟨rfl, _, SqL.of (k4.at e4)⟩, _, rfl, lo, _, _, rfl, rfl, k4.at e4, by rw [sizeLine_eq, List.length_map]; rw [ey] at fx; simp at fx; omega, ?_⟩
          refine ⟨⟨_, _, _, _, rfl⟩, (k3.trans k4).mutNew e2, kvs, by rw [upd_ne e3.symm]; exact hg4, ga.old hv0 (fun a xs na ha => by rw [upd_ne na]; exact k4.at ha) (by rw [upd_same, List.map_append]; rfl)⟩
        · refine ⟨.inl ⟨rfl, [], SqL.of (by rw [upd_ne ngl, upd_same])⟩, _, rfl, li, [], _, rfl, rfl, by rw [upd_ne ngl, upd_same], by decide, ?_⟩
          refine ⟨⟨_, _, _, _, rfl⟩, ((k3.trans k4).mutNew hg).mutNew hli2, putK kvs (keyI [s', n', k']) (.ref li), by rw [upd_ne ngl.symm, upd_same], ga.new hn0 hli3 hli2 ngl (fun a xs na ng ha => by rw [upd_ne na, upd_ne ng]; exact k4.at ha) upd_same⟩
      · rintro σ' H3 ⟨⟨o3, o4, o5, o6, rfl⟩, k3, kvs, hg3, ga⟩
        -- self.kept_goals.append(goals)
        have npl2 : l ≠ g := ne_of_none hl2 hg
        have lds := plen pd
        have ll : d.length < 1000000 := by rw [e] at lm; simp at lm; omega
        refine ⟨_, rfl, p, C, dx, _, _, rfl, k3.at hp2, c, n4, offF_k _ _ _ _, .inl ⟨rfl, _, SqL.of (k3.at hl2)⟩, _, rfl, l, ds, _, rfl, rfl, k3.at hl2, by rw [sizeLine_eq]; omega, ?_⟩
        have hlp : l ≠ p := npl.symm
        refine ⟨⟨_, _, _, _, _, _, rfl⟩, (k2.trans k3.ks).mutNew hl0, by rw [upd_ne (ne_of (k3.at hm2) (k3.at hl2) (fun z => nomatch z))]; exact k3.at hm2, by rw [upd_ne npl]; exact k3.at hp2, ds ++ [.ref g], upd_same, papp ?_ (.cons ?_ .nil)⟩
        · refine pimp (fun v x q => Kept.sto _ _ v x (Ke.of fun a o q => ?_) q) pd
          obtain ⟨na, qa⟩ := Hd.at q
          exact Hd.get na (by rw [upd_ne (fun z => na (.inr z))]; exact k3.at qa)
        · have fr : ∀ a, H2 a = none → ¬ (S a ∨ a = l) := fun a z q => q.elim (fun q => new a (k2.free z) q) fun q => by rw [q, hl2] at z; cases z
          refine ⟨g, kvs, rfl, Hd.get (fr g hg) (by rw [upd_ne npl2.symm]; exact hg3), ga.1, fun st => (ga.2.1 st).imp id fun ⟨li, e1, e2, e3, e4⟩ => ⟨li, e1, Hd.get (fr li e2) ?_⟩⟩
          rw [upd_ne (fun z => by rw [z, hl2] at e2; cases e2)]
          exact e4
    · rintro σ H2 ⟨⟨o1, o2, o3, o4, o5, o6, rfl⟩, k2, hm2, hp2, ds, hl2, pd⟩
      have kd : Tx (Hd S H) (Hd S H2) := Hd.tx k2.tx
      refine k H2 k2 ⟨dx, vs, .ref m, vc, l, ds, Hd.get sp hp2, TI.stb _ _ _ _ kd hs, ?_, TT.stb TI.stb _ _ _ _ kd hc, Hd.get (new l hl0) hl2, pimp (fun v x q => Kept.sto _ _ v x (Ke.of (Hd.anti fun a z => .inl z)) q) pd⟩
      exact ⟨m, ms, rfl, kd.tup _ _ hm, pimp (fun v x r => TT.stb TI.stb _ _ _ _ kd r) pm⟩
theorem ok_Office_keep : FnOk P w K mg base CX0 1 T.a_Office_keep T.d_Office_keep P_Office_keep (sp_keep K) := ok_keep T.F_Office_keep
end
end Fd
set_option Elab.async false
set_option linter.all false
set_option maxRecDepth 100000
set_option maxHeartbeats 4000000
namespace Fd
open PySem PySem.Spec PyProof.Rows L2
structure Good (sz : List Int) (mv : List (List (List Int))) (cl : List (List Int)) : Prop where
  s : Sizes sz
  m : MovesOk sz mv
  c : ClosOk sz mv.length cl
theorem Good.fours {sz : List Int} {mv : List (List (List Int))} {cl : List (List Int)} (g : Good sz mv cl) : Fours mv := fun r hr => ⟨(g.m.2.2 r hr).2.2, fun m hm => by
  obtain ⟨a, b, c, s, n, k, go, _, rfl, _⟩ := (g.m.2.2 r hr).1 m hm
  rfl⟩
/-- __init__ of an office at p -/
def sp_init (C : Addr) (W : List Int → List (List (List Int)) → List (List Int) → Prop) : Sp := fun xs H Q _ => ∃ S p dx vs vm vc sz mv cl, xs = [.ref p, vs, vm, vc] ∧ H p = some (.ins C dx []) ∧ ¬ S p ∧ (∀ a, S a → H a ≠ none) ∧ TI (Hd S H) vs sz ∧ MV (Hd S H) vm mv ∧ CL (Hd S H) vc cl ∧ W sz mv cl ∧
  ∀ H', Ks (· = p) H H' → OffAt C (Hd S H') p sz mv cl → Q .non H'
def Raw (sz : List Int) (mv : List (List (List Int))) (cl : List (List Int)) : Prop := Fours mv ∧ mv.length < 1000000
section
variable {P : Program} {w : World} {K : PySem.W.Frag} {mg : Str → Option Value} {base : Heap} (T : Txt K mg)
include T
theorem ok_Office_init : FnOk P w K mg base CX0 5 T.a_Office_init T.d_Office_init P_Office_init (sp_init T.a_Office Good) := by
  refine T.F_Office_init.ok sc_Office_init (fun vs H Q E h => ?_) (fun cdv A outer s H vs Q E hr h => ?_)
  · obtain ⟨S, p, dx, vs, vm, vc, sz, mv, cl, rfl, _⟩ := h; rfl
  · obtain ⟨S, p, dx, vs, vm, vc, sz, mv, cl, rfl, hp, sp, hS, hs, hm, hc, g, k⟩ := h
    have le : Tx (Hd S H) H := ⟨fun a xs e => (Hd.at e).2⟩
    have hs0 := TI.stb _ _ _ _ le hs
    have hm0 := TT.stb (TT.stb TI.stb) _ _ _ _ le hm
    have hc0 := TT.stb TI.stb _ _ _ _ le hc
    refine ⟨_, (pss_cons (ps_if (pt_not (pt_val (pe_call (ok_are_sizes T) (hr.mono (by decide)) rfl T.g_are_sizes T.k_are_sizes T.b_are_sizes .nil pass0 (pa_cons (pv 1) pa_nil)))) (pss_one ps_never) pss_nil)
  (pss_cons (ps_if (pt_not (pt_val (pe_call (ok_are_moves T) (hr.mono (by decide)) rfl T.g_are_moves T.k_are_moves T.b_are_moves .nil pass0 (pa_cons (pv 1) (pa_cons (pv 2) pa_nil))))) (pss_one ps_never) pss_nil)
  (pss_cons (ps_if (pt_not (pt_val (pe_call (ok_are_closings T) (hr.mono (by decide)) rfl T.g_are_closings T.k_are_closings T.b_are_closings .nil pass0 (pa_cons (pv 1) (pa_cons (pe_callB call_len (by rfl) T.n_len (by decide +kernel) (pa_cons (pv 2) pa_nil)) (pa_cons (pv 3) pa_nil)))))) (pss_one ps_never) pss_nil)
  (pss_one (ps_expr (pe_meth (pv 0) T.c_Office T.t_Office_keep (ok_Office_keep T) (hr.mono (by decide)) T.b_Office_keep .nil pass0 (pa_cons (pv 1) (pa_cons (pv 2) (pa_cons (pv 3) pa_nil))))))))), ?_⟩
    refine ⟨_, rfl, vs, sz, rfl, hs0, g.s, fun H1 k1 => ⟨true, rfl, iteF ?_⟩⟩
    have hs1 := TI.stb _ _ _ _ k1.tx hs0
    have hm1 := TT.stb (TT.stb TI.stb) _ _ _ _ k1.tx hm0
    refine ⟨_, rfl, _, rfl, vs, vm, sz, mv, rfl, hs1, hm1, g.m, fun H2 k2 => ⟨true, rfl, iteF ?_⟩⟩
    have k12 := k1.trans k2
    obtain ⟨m, ms, rfl, hmm, pm⟩ := TT.stb (TT.stb TI.stb) _ _ _ _ k2.tx hm1
    refine ⟨_, rfl, _, rfl, .ref m, ms.length, rfl, .inr ⟨_, SqT.of hmm, rfl⟩, _, rfl, vs, _, vc, sz, cl, rfl, TI.stb _ _ _ _ k2.tx hs1, TT.stb TI.stb _ _ _ _ k12.tx hc0, g.s.1, ?_, fun H3 k3 => ⟨true, rfl, iteF ?_⟩⟩
    · rw [plen pm]; exact g.c
    have k13 : Ke H H3 := k12.trans k3
    have t3 : Tx (Hd S H) (Hd S H3) := Hd.tx k13.tx
    refine ⟨_, rfl, p, dx, [], rfl, k13.at hp, rfl, _, rfl, _, rfl, _, rfl, S, T.a_Office, p, dx, vs, .ref m, vc, sz, mv, cl, rfl, T.oc, k13.at hp, sp, fun a z => k13.there a (hS a z), TI.stb _ _ _ _ t3 hs, TT.stb (TT.stb TI.stb) _ _ _ _ t3 hm, TT.stb TI.stb _ _ _ _ t3 hc, g.fours, by have := g.m.2.1; omega, fun H4 k4 o => k H4 (k13.ks.trans k4) o⟩
end
end Fd
set_option Elab.async false
set_option linter.all false
set_option maxRecDepth 100000
set_option maxHeartbeats 4000000
namespace Fd
open PySem PySem.Spec PyProof.Rows L2
/-- an office's data that any reader may take -/
structure Wf (o : Ofc) : Prop where
  sz : ∃ a b c, o.sz = [a, b, c] ∧ (1 ≤ a ∧ a ≤ 63) ∧ (1 ≤ b ∧ b ≤ 63) ∧ 1 ≤ c ∧ c ≤ 63
  n1 : 1 ≤ o.mv.length
  n2 : o.mv.length ≤ 63
  cl : o.cl.length = o.mv.length
  mv : ∀ r ∈ o.mv, r.length < 1000000 ∧ ∀ m ∈ r, MoveOk o.sz o.mv.length m
  ck : ∀ r ∈ o.cl, r.length < 1000000 ∧ ∀ k ∈ r, 0 ≤ k ∧ k < 63
abbrev OfAt (C : Addr) (H : Hp) (p : Addr) (o : Ofc) : Prop := OffAt C H p o.sz o.mv o.cl
theorem goalsIn_ok {o : Ofc} (w : Wf o) {r : List (List Int)} (hr : r ∈ o.mv) {st : List Int} : (goalsIn r st).length < 1000000 ∧ ∀ g ∈ goalsIn r st, 0 ≤ g ∧ g < o.mv.length := by
  obtain ⟨h1, h2⟩ := w.mv r hr
  refine ⟨Nat.lt_of_le_of_lt (List.length_filterMap_le _ _) h1, fun g hg => ?_⟩
  obtain ⟨m, hm, e⟩ := List.mem_filterMap.mp hg
  obtain ⟨a, b, c, s, n, k, g', _, rfl, _, _, _, h3, h4⟩ := h2 m hm
  by_cases q : ([s, n, k, g'] : List Int).take 3 = st
  · rw [if_pos q] at e
    have e' : g' = g := by simpa using e
    subst e'
    omega
  · rw [if_neg q] at e; cases e
/-- a dict of ints as a set -/
def DS (H : Hp) (f : Addr) (xs : List Int) : Prop := ∃ kvs ks, H f = some (.dK kvs) ∧ kvs.map (·.1) = keyI ks ∧ ks.Nodup ∧ ∀ x, x ∈ ks ↔ x ∈ xs
theorem DS.put {H : Hp} {f : Addr} {xs : List Int} {kvs : List (Key × V)} {ks : List Int} {g : Int} {v : V} (e : kvs.map (·.1) = keyI ks) (hn : ks.Nodup) (hm : ∀ x, x ∈ ks ↔ x ∈ xs) : DS (upd H f (.dK (putK kvs (.inl g) v))) f (xs ++ [g]) :=
  ⟨_, addk ks g, upd_same, keys_put Sum.inl (fun _ _ z => Sum.inl.inj z) e, addk_nodup hn, fun x => by rw [mem_addk, hm]; simp⟩
/-- loops over the heap alone -/
theorem lw_range {lo : Int} {n : Nat} {H0 : Hp} {Qd : Hp → Prop} {B : V → Hp → (Hp → Prop) → Prop} (Pv : Nat → Hp → Prop) (h0 : Pv 0 H0) (hs : ∀ i H, i < n → Pv i H → B (.int (lo + i)) H (Pv (i + 1))) (hd : ∀ H, Pv n H → Qd H) :
    ∃ W : Nat → Nat → Hp → Prop, (∃ m, W 0 m H0) ∧ ∀ i m H, W i m H → ((Itr lo n).stop i H ∧ Qd H) ∨ ((Itr lo n).go i H ∧ ∃ Nx : Hp → Prop, (∀ H', Nx H' → ∃ m', m' < m ∧ W (i + 1) m' H') ∧ ∀ x H', (Itr lo n).yld i H x H' → B x H' Nx) := by
  refine ⟨fun i m H => m = n - i ∧ i ≤ n ∧ Pv i H, ⟨n, by simp, Nat.zero_le _, h0⟩, ?_⟩
  rintro i m H ⟨rfl, hi, p⟩
  by_cases hlt : i < n
  · refine .inr ⟨hlt, Pv (i + 1), fun H' p' => ⟨n - (i + 1), by omega, rfl, hlt, p'⟩, fun x H' y => ?_⟩
    obtain ⟨e, y⟩ := y
    subst e y
    exact hs i _ hlt p
  · have e : i = n := by omega
    subst e
    exact .inl ⟨Nat.le_refl _, hd H p⟩
theorem lw_L {K : PySem.W.Frag} {α : Type} {R : V → α → Prop} {a : Addr} {vs : List V} {xs : List α} {H0 : Hp} {Qd : Hp → Prop} {B : V → Hp → (Hp → Prop) → Prop} (Pv : List α → Hp → Prop) (hp : Paired R vs xs) (h0 : Pv [] H0) (hk : ∀ d H, Pv d H → H a = some (.lst vs))
    (hs : ∀ d x r v H, xs = d ++ x :: r → R v x → Pv d H → B v H (Pv (d ++ [x]))) (hd : ∀ H, Pv xs H → Qd H) :
    ∃ W : Nat → Nat → Hp → Prop, (∃ m, W 0 m H0) ∧ ∀ i m H, W i m H → ((Itl K a).stop i H ∧ Qd H) ∨ ((Itl K a).go i H ∧ ∃ Nx : Hp → Prop, (∀ H', Nx H' → ∃ m', m' < m ∧ W (i + 1) m' H') ∧ ∀ x H', (Itl K a).yld i H x H' → B x H' Nx) := by
  have el := plen hp
  refine ⟨fun i m H => m = vs.length - i ∧ i ≤ vs.length ∧ Pv (xs.take i) H, ⟨vs.length, by simp, Nat.zero_le _, h0⟩, ?_⟩
  rintro i m H ⟨rfl, hi, p⟩
  have q := hk _ _ p
  by_cases hlt : i < vs.length
  · refine .inr ⟨⟨vs, vs[i], SqL.of q, by simp [hlt]⟩, Pv (xs.take (i + 1)), fun H' p' => ⟨vs.length - (i + 1), by omega, rfl, hlt, p'⟩, fun x H' y => ?_⟩
    obtain ⟨e, y⟩ := y
    subst e
    obtain ⟨z, e2, r⟩ := pgetL hp (y vs (SqL.of q))
    have e3 : xs[i]'(by omega) = z := (List.getElem?_eq_some_iff.mp e2).2
    have e4 : xs.take (i + 1) = xs.take i ++ [z] := by rw [List.take_succ, e2]; rfl
    rw [e4]
    exact hs (xs.take i) z (xs.drop (i + 1)) x _ (by rw [← e3, List.getElem_cons_drop, List.take_append_drop]) r p
  · have e : i = vs.length := by omega
    subst e
    rw [el, List.take_length] at p
    exact .inl ⟨⟨vs, SqL.of q, Nat.le_refl _⟩, hd H p⟩
theorem lw_T {K : PySem.W.Frag} {α : Type} {R : V → α → Prop} {a : Addr} {vs : List V} {xs : List α} {H0 : Hp} {Qd : Hp → Prop} {B : V → Hp → (Hp → Prop) → Prop} (Pv : List α → Hp → Prop) (hp : Paired R vs xs) (h0 : Pv [] H0) (hk : ∀ d H, Pv d H → H a = some (.tup vs))
    (hs : ∀ d x r v H, xs = d ++ x :: r → R v x → Pv d H → B v H (Pv (d ++ [x]))) (hd : ∀ H, Pv xs H → Qd H) :
    ∃ W : Nat → Nat → Hp → Prop, (∃ m, W 0 m H0) ∧ ∀ i m H, W i m H → ((Itt K a).stop i H ∧ Qd H) ∨ ((Itt K a).go i H ∧ ∃ Nx : Hp → Prop, (∀ H', Nx H' → ∃ m', m' < m ∧ W (i + 1) m' H') ∧ ∀ x H', (Itt K a).yld i H x H' → B x H' Nx) := by
  have el := plen hp
  refine ⟨fun i m H => m = vs.length - i ∧ i ≤ vs.length ∧ Pv (xs.take i) H, ⟨vs.length, by simp, Nat.zero_le _, h0⟩, ?_⟩
  rintro i m H ⟨rfl, hi, p⟩
  have q := hk _ _ p
  by_cases hlt : i < vs.length
  · refine .inr ⟨⟨vs, vs[i], SqT.of q, by simp [hlt]⟩, Pv (xs.take (i + 1)), fun H' p' => ⟨vs.length - (i + 1), by omega, rfl, hlt, p'⟩, fun x H' y => ?_⟩
    obtain ⟨e, y⟩ := y
    subst e
    obtain ⟨z, e2, r⟩ := pgetL hp (y vs (SqT.of q))
    have e3 : xs[i]'(by omega) = z := (List.getElem?_eq_some_iff.mp e2).2
    have e4 : xs.take (i + 1) = xs.take i ++ [z] := by rw [List.take_succ, e2]; rfl
    rw [e4]
    exact hs (xs.take i) z (xs.drop (i + 1)) x _ (by rw [← e3, List.getElem_cons_drop, List.take_append_drop]) r p
  · have e : i = vs.length := by omega
    subst e
    rw [el, List.take_length] at p
    exact .inl ⟨⟨vs, SqT.of q, Nat.le_refl _⟩, hd H p⟩
def sp_goals_of (K : PySem.W.Frag) : Sp := fun xs H Q _ => ∃ C p o u v ss st, xs = [.ref p, u, v] ∧ OC K C ∧ OfAt C H p o ∧ Wf o ∧ TI H u ss ∧ TI H v st ∧ (∀ s ∈ ss, 0 ≤ s ∧ s < o.mv.length) ∧ ∀ v' H', Ke H H' → TI H' v' (goalsM o ss st) → Q v' H'
def sp_lasts_of (K : PySem.W.Frag) : Sp := fun xs H Q _ => ∃ C p o u ss, xs = [.ref p, u] ∧ OC K C ∧ OfAt C H p o ∧ Wf o ∧ TI H u ss ∧ (∀ s ∈ ss, 0 ≤ s ∧ s < o.mv.length) ∧ ∀ v' H', Ke H H' → TI H' v' (lastsM o ss) → Q v' H'
def sp_all_steps (K : PySem.W.Frag) : Sp := fun xs H Q _ => ∃ C p o a b c, xs = [.ref p] ∧ OC K C ∧ OfAt C H p o ∧ Wf o ∧ o.sz = [a, b, c] ∧ ∀ l ws H', H l = none → Ke H H' → H' l = some (.lst ws) → Paired (TI H') ws (stepsM a b c) → Q (.ref l) H'
section
variable {P : Program} {w : World} {K : PySem.W.Frag} {mg : Str → Option Value} {base : Heap} (T : Txt K mg)
include T
theorem ok_goals_of : FnOk P w K mg base CX0 1 T.a_goals_of T.d_goals_of P_goals_of (sp_goals_of K) := by
  refine T.F_goals_of.ok sc_goals_of (fun vs H Q E h => ?_) (fun cdv A outer s H vs Q E hr h => ?_)
  · obtain ⟨C, p, o, u, v, ss, st, rfl, _⟩ := h; rfl
  · obtain ⟨C, p, o, u, v, ss, st, rfl, oc, of, wf, ⟨a, rfl, ha⟩, ⟨b, rfl, hb⟩, hss, k⟩ := h
    have hu := hu_of hr
    obtain ⟨dx, vs, vm, vc, l, ds, hp, _, _, _, hl, pd⟩ := of.ex
    refine ⟨_, (pss_cons (ps_set (i := 3) sc_goals_of.nd rfl (Or.inl rfl) pe_dnewK)
  (pss_cons (ps_for PassesOwn.never rfl (pi_tup (pv 1)) (pg_name (i := 4) sc_goals_of.nd rfl (Or.inl rfl)) (pss_one (ps_for PassesOwn.never rfl (pi_list (pe_dget2 hu (pe_ix ix_list (pe_fld (pv 0) rfl) (pv 4) (fun _ _ => rfl)) (pv 2) (pe_lst pa_nil) ⟨rfl, rfl, rfl, rfl⟩)) (pg_name (i := 5) sc_goals_of.nd rfl (Or.inl rfl)) (pss_one (ps_dput hu (pv 3) (pv 5) pe_bl rfl)))))
  (pss_one (ps_ret (pe_callTy call_tuple_of (by rfl) T.n_tuple (by decide +kernel) (pa_cons (pe_callB (call_sortedDI rfl) (by rfl) T.n_sorted (by decide +kernel) (pa_cons (pv 3) pa_nil)) pa_nil)))))), ?_⟩
    -- found = {}
    intro f hf
    have k0 : Ke H (upd H f (.dK [])) := Ke.new hf
    refine ⟨_, rfl, a, rfl, ⟨_, SqT.of (k0.at ha)⟩, fo_T (R := II H) (fun d σ H' => (∃ o1 o2, σ = [some (.ref p), some (.ref a), some (.ref b), some (.ref f), o1, o2]) ∧ Ke H H' ∧ DS H' f (d.flatMap fun s => goalsIn (at0 o.mv s) st)) (pmap_int ss)
      ⟨⟨_, _, rfl⟩, k0, [], [], upd_same, rfl, .nil, fun x => by simp⟩ (fun d σ H' p => p.2.1.at ha) ?_ ?_⟩
    · rintro d x r v σ H1 e rfl ⟨⟨o1, o2, rfl⟩, k1, kvs, ks, hf1, hk1, hn1, hm1⟩
      obtain ⟨x0, x1⟩ := hss x (by rw [e]; simp)
      obtain ⟨row, hrow⟩ : ∃ row, o.mv[x.toNat]? = some row := ⟨_, List.getElem?_eq_getElem (by omega)⟩
      have hrm : row ∈ o.mv := List.mem_of_getElem? hrow
      obtain ⟨dv, hdv, dd, kv, rfl, hdd, ga⟩ := pget pd hrow
      have edv : atI ds x = some (.ref dd) := atI_nat hdv (by omega)
      have hg := goalsIn_ok wf hrm (st := st)
      have er : at0 o.mv x = row := at0_of hrow
      refine ⟨_, rfl, p, C, dx, _, _, rfl, k1.at hp, oc.c, oc.n4, offF_k _ _ _ _, _, rfl, l, ds, x, _, rfl, rfl, SqL.of (k1.at hl), edv, dd, rfl, .inr ⟨_, .inl (k1.at hdd)⟩, _, rfl, (by show 0 ≤ sizeLine; decide), fun e0 he0 => ?_⟩
      have k2 : Ke H1 (upd H1 e0 (.lst [])) := Ke.new he0
      have dg : DGet (upd H1 e0 (.lst [])) dd (.ref b) (valV kv (keyI st)) := DGet.t (k2.at (k1.at hdd)) (by rw [keyI_kV]; exact k2.at (k1.at hb))
      obtain ⟨gl, eg, hgl⟩ : ∃ gl, (valV kv (keyI st)).getD (.ref e0) = .ref gl ∧ (upd H1 e0 (.lst [])) gl = some (.lst ((goalsIn row st).map V.int)) := by
        rcases ga.2 st with ⟨z1, z2⟩ | ⟨li, z1, z2⟩
        · exact ⟨e0, by rw [z1]; rfl, by rw [upd_same, z2]; rfl⟩
        · exact ⟨li, by rw [z1]; rfl, k2.at (k1.at z2)⟩
      refine ⟨_, dg, ?_⟩
      rw [eg]
      -- the list of goals
      refine ⟨gl, rfl, ⟨_, SqL.of hgl⟩, fo_L (R := II H) (fun d' σ H' => (∃ o2, σ = [some (.ref p), some (.ref a), some (.ref b), some (.ref f), some (.int x), o2]) ∧ Ke H H' ∧ H' gl = some (.lst ((goalsIn row st).map V.int)) ∧ DS H' f ((d.flatMap fun s => goalsIn (at0 o.mv s) st) ++ d')) (pmap_int (goalsIn row st))
          ⟨⟨_, rfl⟩, k1.trans k2, hgl, kvs, ks, k2.at hf1, hk1, hn1, fun x => by rw [hm1]; simp⟩ (fun d σ H' p => p.2.2.1) ?_ ?_⟩
      · rintro d' g r' v' σ' H3 e' rfl ⟨⟨o2, rfl⟩, k3, hgl3, kvs3, ks3, hf3, hk3, hn3, hm3⟩
        have l3 : ks3.length ≤ 63 := by
          refine Nat.le_trans (short_of hn3 (n := o.mv.length) fun z hz => ?_) wf.n2
          rcases List.mem_append.mp ((hm3 z).mp hz) with q | q
          · obtain ⟨s', hs', q⟩ := List.mem_flatMap.mp q
            obtain ⟨y0, y1⟩ := hss s' (by rw [e]; simp [hs'])
            have q2 : o.mv[s'.toNat]? = some (o.mv[s'.toNat]'(by omega)) := List.getElem?_eq_getElem (by omega)
            rw [at0_of q2] at q
            exact (goalsIn_ok wf (List.mem_of_getElem? q2)).2 z q
          · exact hg.2 z (by rw [e']; simp [q])
        have lk : kvs3.length = ks3.length := by have := congrArg List.length hk3; simpa using this
        refine ⟨_, rfl, _, rfl, f, _, rfl, DPut.k (k := .inl g) hf3 (by rw [sizeLine_eq]; omega), ⟨_, rfl⟩, k3.mutNew hf, ?_, ?_⟩
        · rw [upd_ne (ne_of hgl3 hf3 (fun z => nomatch z))]; exact hgl3
        · rw [← List.append_assoc]; exact DS.put hk3 hn3 hm3
      · rintro σ' H3 ⟨⟨o2, rfl⟩, k3, hgl3, q3⟩
        refine ⟨⟨_, _, rfl⟩, k3, ?_⟩
        rw [List.flatMap_append, List.flatMap_singleton, er]
        exact q3
    · rintro σ H1 ⟨⟨o1, o2, rfl⟩, k1, kvs, ks, hf1, hk1, hn1, hm1⟩
      have l1 : ks.length ≤ 63 := by
        refine Nat.le_trans (short_of hn1 (n := o.mv.length) fun z hz => ?_) wf.n2
        obtain ⟨s', hs', q⟩ := List.mem_flatMap.mp ((hm1 z).mp hz)
        obtain ⟨y0, y1⟩ := hss s' hs'
        have q2 : o.mv[s'.toNat]? = some (o.mv[s'.toNat]'(by omega)) := List.getElem?_eq_getElem (by omega)
        rw [at0_of q2] at q
        exact (goalsIn_ok wf (List.mem_of_getElem? q2)).2 z q
      refine ⟨_, rfl, f, kvs, ks, rfl, .inl hf1, hk1, by omega, fun ys q hp1 hp2 hq => ⟨q, _, rfl, .inl ⟨SqL.of upd_same, fun t ht => ?_⟩⟩⟩
      refine k _ _ ((k1.trans (Ke.new hq)).trans (Ke.new ht)) ⟨t, rfl, ?_⟩
      rw [upd_same, usort_of hp1 hp2 hn1 hm1]
      rfl
end
end Fd
set_option Elab.async false
set_option linter.all false
set_option maxRecDepth 100000
set_option maxHeartbeats 4000000
namespace Fd
open PySem PySem.Spec PyProof.Rows L2
section
variable {P : Program} {w : World} {K : PySem.W.Frag} {mg : Str → Option Value} {base : Heap} (T : Txt K mg)
include T
theorem ok_lasts_of : FnOk P w K mg base CX0 1 T.a_lasts_of T.d_lasts_of P_lasts_of (sp_lasts_of K) := by
  refine T.F_lasts_of.ok sc_lasts_of (fun vs H Q E h => ?_) (fun cdv A outer s H vs Q E hr h => ?_)
  · obtain ⟨C, p, o, u, ss, rfl, _⟩ := h; rfl
  · obtain ⟨C, p, o, u, ss, rfl, oc, of, wf, ⟨a, rfl, ha⟩, hss, k⟩ := h
    have hu := hu_of hr
    obtain ⟨dx, vs, vm, vc, l, ds, hp, _, _, ⟨c, cs, rfl, hc, pc⟩, _, _⟩ := of.ex
    refine ⟨_, (pss_cons (ps_set (i := 2) sc_lasts_of.nd rfl (Or.inl rfl) pe_dnewK)
  (pss_cons (ps_for PassesOwn.never rfl (pi_tup (pv 1)) (pg_name (i := 3) sc_lasts_of.nd rfl (Or.inl rfl)) (pss_one (ps_for PassesOwn.never rfl (pi_tup (pe_ix ix_tup (pe_fld (pv 0) rfl) (pv 3) (fun _ _ => rfl))) (pg_name (i := 4) sc_lasts_of.nd rfl (Or.inl rfl)) (pss_one (ps_dput hu (pv 2) (pv 4) pe_bl rfl)))))
  (pss_one (ps_ret (pe_callTy call_tuple_of (by rfl) T.n_tuple (by decide +kernel) (pa_cons (pe_callB (call_sortedDI rfl) (by rfl) T.n_sorted (by decide +kernel) (pa_cons (pv 2) pa_nil)) pa_nil)))))), ?_⟩
    intro f hf
    have k0 : Ke H (upd H f (.dK [])) := Ke.new hf
    have all63 : ∀ d : List Int, (∀ s ∈ d, s ∈ ss) → ∀ z ∈ d.flatMap (fun s => at0 o.cl s), 0 ≤ z ∧ z < (63 : Nat) := fun d hd z hz => by
      obtain ⟨s', hs', q⟩ := List.mem_flatMap.mp hz
      obtain ⟨y0, y1⟩ := hss s' (hd s' hs')
      have q2 : o.cl[s'.toNat]? = some (o.cl[s'.toNat]'(by have := wf.cl; omega)) := List.getElem?_eq_getElem (by have := wf.cl; omega)
      rw [at0_of q2] at q
      exact (wf.ck _ (List.mem_of_getElem? q2)).2 z q
    refine ⟨_, rfl, a, rfl, ⟨_, SqT.of (k0.at ha)⟩, fo_T (R := II H) (fun d σ H' => (∃ o1 o2, σ = [some (.ref p), some (.ref a), some (.ref f), o1, o2]) ∧ Ke H H' ∧ DS H' f (d.flatMap fun s => at0 o.cl s)) (pmap_int ss)
      ⟨⟨_, _, rfl⟩, k0, [], [], upd_same, rfl, .nil, fun x => by simp⟩ (fun d σ H' p => p.2.1.at ha) ?_ ?_⟩
    · rintro d x r v σ H1 e rfl ⟨⟨o1, o2, rfl⟩, k1, kvs, ks, hf1, hk1, hn1, hm1⟩
      obtain ⟨x0, x1⟩ := hss x (by rw [e]; simp)
      obtain ⟨row, hrow⟩ : ∃ row, o.cl[x.toNat]? = some row := ⟨_, List.getElem?_eq_getElem (by have := wf.cl; omega)⟩
      obtain ⟨cv, hcv, b, rfl, hb⟩ := pget pc hrow
      have er : at0 o.cl x = row := at0_of hrow
      refine ⟨_, rfl, p, C, dx, _, _, rfl, k1.at hp, oc.c, oc.n3, offF_c _ _ _ _, _, rfl, c, cs, x, _, rfl, rfl, SqT.of (k1.at hc), atI_nat hcv (by omega), b, rfl, ⟨_, SqT.of (k1.at hb)⟩, ?_⟩
      refine fo_T (R := II H) (fun d' σ H' => (∃ o2, σ = [some (.ref p), some (.ref a), some (.ref f), some (.int x), o2]) ∧ Ke H H' ∧ DS H' f ((d.flatMap fun s => at0 o.cl s) ++ d')) (pmap_int row)
          ⟨⟨_, rfl⟩, k1, kvs, ks, hf1, hk1, hn1, fun x => by rw [hm1]; simp⟩ (fun d σ H' p => p.2.1.at hb) ?_ ?_
      · rintro d' g r' v' σ' H3 e' rfl ⟨⟨o2, rfl⟩, k3, kvs3, ks3, hf3, hk3, hn3, hm3⟩
        have l3 : ks3.length ≤ 63 := by
          refine short_of hn3 (n := 63) fun z hz => ?_
          rcases List.mem_append.mp ((hm3 z).mp hz) with q | q
          · exact all63 d (fun s' hs' => by rw [e]; simp [hs']) z q
          · exact (wf.ck _ (List.mem_of_getElem? hrow)).2 z (by rw [e']; simp [q])
        have lk : kvs3.length = ks3.length := by have := congrArg List.length hk3; simpa using this
        refine ⟨_, rfl, _, rfl, f, _, rfl, DPut.k (k := .inl g) hf3 (by rw [sizeLine_eq]; omega), ⟨_, rfl⟩, k3.mutNew hf, ?_⟩
        rw [← List.append_assoc]; exact DS.put hk3 hn3 hm3
      · rintro σ' H3 ⟨⟨o2, rfl⟩, k3, q3⟩
        refine ⟨⟨_, _, rfl⟩, k3, ?_⟩
        rw [List.flatMap_append, List.flatMap_singleton, er]
        exact q3
    · rintro σ H1 ⟨⟨o1, o2, rfl⟩, k1, kvs, ks, hf1, hk1, hn1, hm1⟩
      have l1 : ks.length ≤ 63 := short_of hn1 (n := 63) fun z hz => all63 ss (fun _ h => h) z ((hm1 z).mp hz)
      refine ⟨_, rfl, f, kvs, ks, rfl, .inl hf1, hk1, by omega, fun ys q hp1 hp2 hq => ⟨q, _, rfl, .inl ⟨SqL.of upd_same, fun t ht => ?_⟩⟩⟩
      refine k _ _ ((k1.trans (Ke.new hq)).trans (Ke.new ht)) ⟨t, rfl, ?_⟩
      rw [upd_same, usort_of hp1 hp2 hn1 hm1]
      rfl
theorem ran_flat {α : Type} (n : Int) (f : Int → List α) (i : Nat) : (((List.range (i + 1)).map Int.ofNat).flatMap f) = ((List.range i).map Int.ofNat).flatMap f ++ f i := by
  rw [List.range_succ, List.map_append, List.flatMap_append]
  simp
omit T in
theorem snoc_tx {H H' : Hp} {D : Addr} {xs : List V} {ws : List V} (k : Tx H H') (h : H D = some (.lst xs)) : Tx H (upd H' D (.lst ws)) := ⟨fun b ys e => by rw [upd_ne (fun z => by subst z; rw [h] at e; cases e)]; exact k.tup b ys e⟩
theorem ok_all_steps : FnOk P w K mg base CX0 1 T.a_all_steps T.d_all_steps P_all_steps (sp_all_steps K) := by
  refine T.F_all_steps.ok sc_all_steps (fun vs H Q E h => ?_) (fun cdv A outer s H vs Q E hr h => ?_)
  · obtain ⟨C, p, o, a, b, c, rfl, _⟩ := h; rfl
  · obtain ⟨C, p, o, a, b, c, rfl, oc, of, wf, es, k⟩ := h
    obtain ⟨dx, vs, vm, vc, l, ds, hp, ⟨z, rfl, hz⟩, _⟩ := of.ex
    obtain ⟨a', b', c', es', ⟨a1, a2⟩, ⟨b1, b2⟩, c1, c2⟩ := wf.sz
    obtain ⟨rfl, rfl, rfl⟩ : a = a' ∧ b = b' ∧ c = c' := by rw [es] at es'; simpa using es'
    rw [es] at hz
    refine ⟨_, (pss_cons (ps_asg (pe_fld (pv 0) rfl) (pg_tup rfl (pgs_cons (pg_name (i := 1) sc_all_steps.nd rfl (Or.inl rfl)) (pgs_cons (pg_name (i := 2) sc_all_steps.nd rfl (Or.inr rfl)) (pgs_cons (pg_name (i := 3) sc_all_steps.nd rfl (Or.inr rfl)) pgs_nil)))))
  (pss_cons (ps_setLc2 (vs1 := [6]) (i := 4) (own := [("slip", 5), ("answer", 6)]) rfl sc_all_steps.nd rfl rfl (sw_true rfl rfl rfl (by decide +kernel)) (pi_range1 rfl T.n_range (pa_cons (pv 1) pa_nil)) (blkOk_by (own := [("slip", 5), ("answer", 6)]) (N := N_all_steps) (sc := defScope s_all_steps) (by decide +kernel)) (by decide) (fun _ _ _ _ _ => (pg_name (i := 5) sc_all_steps.nd rfl (Or.inl rfl))) (fun _ _ _ _ _ => pts_nil) (fun _ _ _ _ _ => (pi_range1 rfl T.n_range (pa_cons (pv 2) pa_nil))) (fun _ _ _ _ _ => (pg_name (i := 6) sc_all_steps.nd rfl (Or.inl rfl))) (fun _ _ _ _ _ => pts_nil) (fun _ _ _ _ _ => (pe_tup (pa_cons (pv 5) (pa_cons (pv 6) pa_nil)))))
  (pss_one (ps_ret (pe_lc2 (vs1 := [8]) (own := [("note", 7), ("mark", 8)]) rfl sc_all_steps.nd (pi_list (pv 4)) (blkOk_by (own := [("note", 7), ("mark", 8)]) (N := N_all_steps) (sc := defScope s_all_steps) (by decide +kernel)) (by decide) (fun _ _ _ _ _ => (pg_name (i := 7) sc_all_steps.nd rfl (Or.inl rfl))) (fun _ _ _ _ _ => pts_nil) (fun _ _ _ _ _ => (pi_range1 rfl T.n_range (pa_cons (pv 3) pa_nil))) (fun _ _ _ _ _ => (pg_name (i := 8) sc_all_steps.nd rfl (Or.inl rfl))) (fun _ _ _ _ _ => pts_nil) (fun _ _ _ _ _ => (pe_op (op_catAK K rfl) (pv 7) (pe_tup (pa_cons (pv 8) pa_nil))))))))), ?_⟩
    refine ⟨_, rfl, p, C, dx, _, _, rfl, hp, oc.c, oc.n1, offF_s _ _ _ _, z, _, rfl, SqT.of hz, rfl, _, _, rfl, _, _, rfl, _, _, rfl, rfl, ?_⟩
    have nl : ∀ (i j : Nat) (x : Int), x ≤ 63 → i < x.toNat → j < 63 → i * 63 + j < 100000 := fun i j x h1 h2 h3 => by omega
    -- notes_here
    refine ⟨_, rfl, a, rfl, by omega, by omega, fun D hD => lw_range (fun i H' => Ke H H' ∧ LL TI H' (.ref D) (((List.range i).map Int.ofNat).flatMap fun s => (ran b).map fun n => [s, n]) ∧ (((List.range i).map Int.ofNat).flatMap fun s => (ran b).map fun n => [s, n]).length = i * b.toNat) ⟨Ke.new hD, ⟨D, [], rfl, upd_same, .nil⟩, by simp⟩ ?_ ?_⟩
    · rintro i H1 hi ⟨k1, ⟨D', ws, eD, hw, pw⟩, ln⟩
      cases eD
      refine ⟨rfl, _, rfl, b, rfl, by omega, by omega, lw_range (fun j H' => Ke H H' ∧ LL TI H' (.ref D) ((((List.range i).map Int.ofNat).flatMap fun s => (ran b).map fun n => [s, n]) ++ ((List.range j).map Int.ofNat).map fun n => [(i : Int), n])) ⟨k1, D, ws, rfl, hw, by simpa using pw⟩ ?_ ?_⟩
      · rintro j H2 hj ⟨k2, D2, ws2, eD, hw2, pw2⟩
        cases eD
        have lw := plen pw2
        refine ⟨rfl, _, rfl, _, rfl, (by show 2 ≤ sizeLine; decide), fun t ht => ⟨ws2, (Ke.new ht).at hw2, ?_, (k2.trans (Ke.new ht)).mutNew hD, D, _, rfl, upd_same, ?_⟩⟩
        · rw [lw, List.length_append, ln, List.length_map, List.length_map, List.length_range, sizeLine_eq]
          have : i * b.toNat ≤ 63 * 63 := Nat.mul_le_mul (by omega) (by omega)
          omega
        · have tx : Tx H2 (upd (upd H2 t (.tup [.int (0 + (i : Nat)), .int (0 + (j : Nat))])) D (.lst (ws2 ++ [.ref t]))) := snoc_tx (Ke.new ht).tx hw2
          rw [List.range_succ, List.map_append, List.map_append, ← List.append_assoc]
          refine papp (pimp (fun v x r => TI.stb _ _ v x tx r) pw2) (.cons ⟨t, rfl, ?_⟩ .nil)
          rw [upd_ne (ne_of_none hw2 ht).symm, upd_same]
          simp
      · rintro H2 ⟨k2, q2⟩
        refine ⟨k2, ?_, ?_⟩
        · rw [ran_flat T b]
          exact q2
        · rw [ran_flat T b, List.length_append, ln, List.length_map, ran, List.length_map, List.length_range, Nat.succ_mul]
    · rintro H1 ⟨k1, ⟨D', ws, eD, hw, pw⟩, ln⟩
      cases eD
      have en : (((List.range a.toNat).map Int.ofNat).flatMap fun s => (ran b).map fun n => [s, n]) = (ran a).flatMap fun s => (ran b).map fun n => [s, n] := rfl
      rw [en] at pw ln
      generalize hN : ((ran a).flatMap fun s => (ran b).map fun n => [s, n]) = notes at pw ln
      have two : ∀ x ∈ notes, x ≠ [] ∧ x.length = 2 := fun x hx => by
        rw [← hN] at hx
        obtain ⟨s', _, hx⟩ := List.mem_flatMap.mp hx
        obtain ⟨n', _, rfl⟩ := List.mem_map.mp hx
        exact ⟨by simp, rfl⟩
      have lnn : notes.length ≤ 63 * 63 := by rw [ln]; exact Nat.mul_le_mul (by omega) (by omega)
      have es : stepsM a b c = notes.flatMap fun x => (ran c).map fun k => x ++ [k] := by unfold stepsM; rw [hN]
      refine ⟨_, rfl, D, rfl, ⟨_, SqL.of hw⟩, fun D2 hD2 => ?_⟩
      refine lw_L (R := TI H1) (fun d H' => Ke H1 H' ∧ (∃ ws', H' D2 = some (.lst ws') ∧ Paired (TI H') ws' (d.flatMap fun x => (ran c).map fun k => x ++ [k])) ∧ (d.flatMap fun x => (ran c).map fun k => x ++ [k]).length = d.length * c.toNat) pw ⟨Ke.new hD2, ⟨[], upd_same, .nil⟩, by simp⟩ (fun d H' p => p.1.at hw) ?_ ?_
      · rintro d x r v H2 e ⟨t0, rfl, ht0⟩ ⟨k2, ⟨ws2, hw2, pw2⟩, l2⟩
        have ht2 := k2.at ht0
        obtain ⟨x1, x2⟩ := two x (by rw [e]; simp)
        have ld : d.length ≤ 63 * 63 := by rw [e] at lnn; simp at lnn; omega
        refine ⟨rfl, _, rfl, c, rfl, by omega, by omega, lw_range (fun j H' => Ke H1 H' ∧ ∃ ws', H' D2 = some (.lst ws') ∧ Paired (TI H') ws' ((d.flatMap fun x => (ran c).map fun k => x ++ [k]) ++ ((List.range j).map Int.ofNat).map fun k => x ++ [k])) ⟨k2, ws2, hw2, by simpa using pw2⟩ ?_ ?_⟩
        · rintro j H3 hj ⟨k3, ws3, hw3, pw3⟩
          have lw := plen pw3
          refine ⟨rfl, _, rfl, _, rfl, (by show 1 ≤ sizeLine; decide), fun u hu0 => ⟨t0, u, _, _, rfl, rfl, SqT.of ((Ke.new hu0).at (k3.at ht0)), SqT.of upd_same, (by rw [List.length_map, x2]; show 3 ≤ sizeLine; decide), fun z => absurd z (by simpa using x1), fun _ z => by simp at z, fun _ _ t ht => ?_⟩⟩
          have k4 : Ke H3 (upd (upd H3 u (.tup [.int (0 + (j : Nat))])) t (.tup (x.map V.int ++ [.int (0 + (j : Nat))]))) := (Ke.new hu0).trans (Ke.new ht)
          refine ⟨ws3, k4.at hw3, ?_, (k3.trans k4).mutNew hD2, _, upd_same, ?_⟩
          · rw [lw, List.length_append, l2, List.length_map, List.length_map, List.length_range, sizeLine_eq]
            have : d.length * c.toNat ≤ 63 * 63 * 63 := Nat.mul_le_mul ld (by omega)
            omega
          · have tx := snoc_tx (ws := ws3 ++ [.ref t]) k4.tx hw3
            rw [List.range_succ, List.map_append, List.map_append, ← List.append_assoc]
            refine papp (pimp (fun v x r => TI.stb _ _ v x tx r) pw3) (.cons ⟨t, rfl, ?_⟩ .nil)
            rw [upd_ne (ne_of (k4.at hw3) upd_same (fun z => nomatch z)).symm, upd_same]
            simp
        · rintro H3 ⟨k3, ws3, hw3, pw3⟩
          refine ⟨k3, ⟨ws3, hw3, ?_⟩, ?_⟩
          · rw [List.flatMap_append, List.flatMap_singleton]
            exact pw3
          · rw [List.flatMap_append, List.flatMap_singleton, List.length_append, l2, List.length_append, List.length_map, ran, List.length_map, List.length_range]
            show _ = (d.length + 1) * c.toNat
            rw [Nat.succ_mul]
      · rintro H2 ⟨k2, ⟨ws2, hw2, pw2⟩, _⟩
        exact k D2 ws2 _ (k1.free hD2) (k1.trans k2) hw2 (by rw [es]; exact pw2)
end
end Fd
set_option Elab.async false
set_option linter.all false
set_option maxRecDepth 100000
set_option maxHeartbeats 4000000
/-! What the chain computes, in plain lists. -/
namespace Fd
def slipsIn (row : List (List Int)) (s : Int) : List (List Int) := row.filter fun m => decide (m[0]? = some s)
theorem slipsIn_snoc (row : List (List Int)) (m : List Int) (s0 s : Int) (h : m[0]? = some s0) : slipsIn (row ++ [m]) s = if s0 = s then slipsIn row s ++ [m] else slipsIn row s := by
  unfold slipsIn
  rw [List.filter_append]
  by_cases c : s0 = s
  · rw [if_pos c]; simp [h, c]
  · rw [if_neg c]; simp [h, c]
/-- the joint moves of two standings -/
def jointM (o1 o2 : Ofc) (q1 q2 : Int) : List (List Int × List Int) := (at0 o1.mv q1).flatMap fun m => (slipsIn (at0 o2.mv q2) (m.getD 1 0)).map fun m' =>
  ([m.getD 0 0, m.getD 1 0 * o2.sz.getD 1 0 + m'.getD 1 0, m.getD 2 0 * o2.sz.getD 2 0 + m'.getD 2 0], [m.getD 3 0, m'.getD 3 0])
def jointL (o1 o2 : Ofc) (q1 q2 : Int) : List Int := (at0 o1.cl q1).flatMap fun k => (at0 o2.cl q2).map fun k' => k * o2.sz.getD 2 0 + k'

/-- the chain while it is made: the pairs met, the rows, the closings -/
structure ChS where
  ps : List (List Int)
  mv : List (List (List Int))
  cl : List (List Int)
def pairsC (ps : List (List Int)) (js : List (List Int × List Int)) : List (List Int) := js.foldl (fun ps x => addk ps x.2) ps
noncomputable def rowC (ps : List (List Int)) (js : List (List Int × List Int)) : List (List Int) := js.map fun x => x.1 ++ [((ps.idxOf x.2 : Nat) : Int)]
noncomputable def jsC (o1 o2 : Ofc) (q : List Int) : List (List Int × List Int) := sortP (jointM o1 o2 (q.getD 0 0) (q.getD 1 0))
noncomputable def stepC (o1 o2 : Ofc) (S : ChS) : ChS :=
  let q := S.ps.getD S.mv.length []
  let ps := pairsC S.ps (jsC o1 o2 q)
  ⟨ps, S.mv ++ [sortT (rowC ps (jsC o1 o2 q))], S.cl ++ [sortI (jointL o1 o2 (q.getD 0 0) (q.getD 1 0))]⟩
noncomputable def runC (o1 o2 : Ofc) : Nat → ChS → ChS
  | 0, S => S
  | n + 1, S => if S.mv.length < S.ps.length then runC o1 o2 n (stepC o1 o2 S) else S
def S0 : ChS := ⟨[[0, 0]], [], []⟩
noncomputable def endC (o1 o2 : Ofc) : ChS := runC o1 o2 (o1.mv.length * o2.mv.length) S0
noncomputable def chainM (o1 o2 : Ofc) : Ofc := ⟨[o1.sz.getD 0 0, o1.sz.getD 1 0 * o2.sz.getD 1 0, o1.sz.getD 2 0 * o2.sz.getD 2 0], (endC o1 o2).mv, (endC o1 o2).cl⟩
/-- goals within -/
def GoalsOk (o : Ofc) : Prop := ∀ r ∈ o.mv, ∀ m ∈ r, 0 ≤ m.getD 3 0 ∧ m.getD 3 0 < o.mv.length
def PairOk (o1 o2 : Ofc) (q : List Int) : Prop := ∃ a b, q = [a, b] ∧ (0 ≤ a ∧ a < o1.mv.length) ∧ 0 ≤ b ∧ b < o2.mv.length
theorem at0_mem {α : Type} {xs : List (List α)} {i : Int} {x : α} (h : x ∈ at0 xs i) : ∃ r ∈ xs, x ∈ r := by
  unfold at0 at h
  cases e : xs[i.toNat]? with
  | none => rw [e] at h; cases h
  | some r => rw [e] at h; exact ⟨r, List.mem_of_getElem? e, h⟩
theorem jsC_ok {o1 o2 : Ofc} (g1 : GoalsOk o1) (g2 : GoalsOk o2) {q : List Int} : ∀ x ∈ jsC o1 o2 q, PairOk o1 o2 x.2 := fun x hx => by
  obtain ⟨m, hm, hx⟩ := List.mem_flatMap.mp (mem_sortP.mp hx)
  obtain ⟨m', hm', rfl⟩ := List.mem_map.mp hx
  obtain ⟨r, hr, hm⟩ := at0_mem hm
  obtain ⟨r', hr', hm'⟩ := at0_mem (List.mem_filter.mp hm').1
  exact ⟨_, _, rfl, g1 r hr m hm, g2 r' hr' m' hm'⟩
theorem pairsC_append (ps : List (List Int)) (a b : List (List Int × List Int)) : pairsC ps (a ++ b) = pairsC (pairsC ps a) b := List.foldl_append
theorem pairsC_pre : ∀ (b : List (List Int × List Int)) (ps : List (List Int)), ∃ r, pairsC ps b = ps ++ r
  | [], ps => ⟨[], by simp [pairsC]⟩
  | x :: b, ps => by
    obtain ⟨r, e⟩ := pairsC_pre b (addk ps x.2)
    refine ⟨(if x.2 ∈ ps then [] else [x.2]) ++ r, ?_⟩
    show pairsC (addk ps x.2) b = _
    rw [e]
    unfold addk
    split
    · simp
    · simp
theorem mem_pairsC : ∀ {b : List (List Int × List Int)} {ps : List (List Int)} {g : List Int}, g ∈ pairsC ps b ↔ g ∈ ps ∨ ∃ x ∈ b, x.2 = g
  | [], ps, g => by simp [pairsC]
  | x :: b, ps, g => by
    show g ∈ pairsC (addk ps x.2) b ↔ _
    rw [mem_pairsC, mem_addk]
    constructor
    · rintro ((h | h) | ⟨y, hy, e⟩)
      · exact .inl h
      · exact .inr ⟨x, by simp, h.symm⟩
      · exact .inr ⟨y, by simp [hy], e⟩
    · rintro (h | ⟨y, hy, e⟩)
      · exact .inl (.inl h)
      · rcases List.mem_cons.mp hy with z | z
        · exact .inl (.inr (by rw [← e, z]))
        · exact .inr ⟨y, z, e⟩
theorem nodup_pairsC : ∀ {b : List (List Int × List Int)} {ps : List (List Int)}, ps.Nodup → (pairsC ps b).Nodup
  | [], _, h => h
  | x :: b, ps, h => nodup_pairsC (b := b) (addk_nodup h)
theorem idx_pre {ps : List (List Int)} {b : List (List Int × List Int)} {g : List Int} (h : g ∈ ps) : (pairsC ps b).idxOf g = ps.idxOf g := by
  obtain ⟨r, e⟩ := pairsC_pre b ps
  rw [e, List.idxOf_append, if_pos h]
/-- what holds of the chain while it is made -/
structure ChOk (o1 o2 : Ofc) (S : ChS) : Prop where
  nd : S.ps.Nodup
  ok : ∀ q ∈ S.ps, PairOk o1 o2 q
  le : S.mv.length ≤ S.ps.length
  cl : S.cl.length = S.mv.length
  rw : ∀ r ∈ S.mv, r.length < 1000000 ∧ ∀ m ∈ r, ∃ q1 q2 x, x ∈ jointM o1 o2 q1 q2 ∧ x.2 ∈ S.ps ∧ m = x.1 ++ [((S.ps.idxOf x.2 : Nat) : Int)]
  ck : ∀ r ∈ S.cl, r.length < 1000000 ∧ ∀ k ∈ r, ∃ q1 q2, k ∈ jointL o1 o2 q1 q2
theorem jointM_three {o1 o2 : Ofc} {q1 q2 : Int} {x : List Int × List Int} (hx : x ∈ jointM o1 o2 q1 q2) : x.1.length = 3 := by
  obtain ⟨m, _, hx⟩ := List.mem_flatMap.mp hx
  obtain ⟨m', _, rfl⟩ := List.mem_map.mp hx
  rfl
theorem ChOk.four {o1 o2 : Ofc} {S : ChS} (x : ChOk o1 o2 S) : ∀ r ∈ S.mv, r.length < 1000000 ∧ ∀ m ∈ r, m.length = 4 := fun r hr => ⟨(x.rw r hr).1, fun m hm => by
  obtain ⟨q1, q2, y, hy, _, rfl⟩ := (x.rw r hr).2 m hm
  rw [List.length_append, jointM_three hy]; rfl⟩
theorem pairs_le {o1 o2 : Ofc} {ps : List (List Int)} (nd : ps.Nodup) (ok : ∀ q ∈ ps, PairOk o1 o2 q) : ps.length ≤ o1.mv.length * o2.mv.length := by
  have h := len_sub (b := (ran o1.mv.length).flatMap fun a => (ran o2.mv.length).map fun b => [a, b]) nd fun q hq => by
    obtain ⟨a, b, rfl, ha, hb⟩ := ok q hq
    exact List.mem_flatMap.mpr ⟨a, mem_ran.mpr ha, List.mem_map.mpr ⟨b, mem_ran.mpr hb, rfl⟩⟩
  refine Nat.le_trans h (Nat.le_of_eq ?_)
  have lr : ∀ n : Nat, (ran n).length = n := fun n => by unfold ran; simp
  rw [List.length_flatMap]
  have : ((ran o1.mv.length).map fun a => ((ran o2.mv.length).map fun b => [a, b]).length) = (ran o1.mv.length).map fun _ => o2.mv.length := by
    apply List.map_congr_left
    intro a _
    rw [List.length_map, lr]
  rw [this, List.map_const', List.sum_replicate_nat, lr]
theorem ChOk.step {o1 o2 : Ofc} (g1 : GoalsOk o1) (g2 : GoalsOk o2) (hs : ∀ q1 q2, (jointM o1 o2 q1 q2).length < 1000000) (hl : ∀ q1 q2, (jointL o1 o2 q1 q2).length < 1000000) {S : ChS} (x : ChOk o1 o2 S) (h : S.mv.length < S.ps.length) : ChOk o1 o2 (stepC o1 o2 S) where
  nd := nodup_pairsC x.nd
  ok := fun q hq => by
    rcases mem_pairsC.mp hq with z | ⟨y, hy, rfl⟩
    · exact x.ok q z
    · exact jsC_ok g1 g2 y hy
  le := by
    obtain ⟨r, e⟩ := pairsC_pre (jsC o1 o2 (S.ps.getD S.mv.length [])) S.ps
    show (S.mv ++ [_]).length ≤ (pairsC S.ps _).length
    rw [e]; simp; omega
  cl := by show (S.cl ++ [_]).length = (S.mv ++ [_]).length; simp [x.cl]
  rw := fun r hr => by
    rcases List.mem_append.mp hr with z | z
    · refine ⟨(x.rw r z).1, fun m hm => ?_⟩
      obtain ⟨q1, q2, y, hy, hp, e⟩ := (x.rw r z).2 m hm
      exact ⟨q1, q2, y, hy, mem_pairsC.mpr (.inl hp), by rw [e]; show _ = y.1 ++ [(((pairsC S.ps _).idxOf y.2 : Nat) : Int)]; rw [idx_pre hp]⟩
    · rw [List.mem_singleton.mp z]
      refine ⟨by rw [len_sortT]; unfold rowC jsC; rw [List.length_map, len_sortP]; exact hs _ _, fun m hm => ?_⟩
      obtain ⟨y, hy, rfl⟩ := List.mem_map.mp (mem_sortT.mp hm)
      exact ⟨_, _, y, mem_sortP.mp hy, mem_pairsC.mpr (.inr ⟨y, hy, rfl⟩), rfl⟩
  ck := fun r hr => by
    rcases List.mem_append.mp hr with z | z
    · exact x.ck r z
    · rw [List.mem_singleton.mp z]
      exact ⟨by rw [len_sortI]; exact hl _ _, fun k hk => ⟨_, _, mem_sortI.mp hk⟩⟩
theorem ChOk.init {o1 o2 : Ofc} (h1 : 1 ≤ o1.mv.length) (h2 : 1 ≤ o2.mv.length) : ChOk o1 o2 S0 := ⟨by simp [S0], fun q hq => by
  have e : q = [0, 0] := by simpa [S0] using hq
  exact ⟨0, 0, e, by omega, by omega⟩, by simp [S0], rfl, (fun r hr => nomatch hr), (fun r hr => nomatch hr)⟩
theorem runC_done {o1 o2 : Ofc} {S : ChS} (h : ¬ S.mv.length < S.ps.length) : ∀ n, runC o1 o2 n S = S
  | 0 => rfl
  | n + 1 => by unfold runC; rw [if_neg h]
theorem runC_step {o1 o2 : Ofc} {S : ChS} (h : S.mv.length < S.ps.length) {n : Nat} (hn : 0 < n) : runC o1 o2 n S = runC o1 o2 (n - 1) (stepC o1 o2 S) := by
  match n, hn with
  | n + 1, _ =>
    show (if _ then _ else _) = _
    rw [if_pos h]; rfl
end Fd
set_option Elab.async false
set_option linter.all false
set_option maxRecDepth 100000
set_option maxHeartbeats 4000000
namespace Fd
open PySem PySem.Spec PySem.Calls PyProof.Rows L2
/-- what the written part says of an own error's __init__ whose first row is super().__init__(text) -/
structure SupI (P : Program) (K : PySem.W.Frag) (C f : Addr) (F : NdefX.NF) (cc : Addr) : Prop where
  fn : ∃ (oc : Value) (od : Option Addr) (osl : Array (Option Value)) (doc pm ctv : Value), K.lookup f = some ⟨oc, od, .func (F.fd doc pm ctv), osl⟩
  cl : F.cl = [(("__class__" : Str), cc)]
  code : PySem.W.codeIn K (.ref F.c) F.qual = true
  file : ∃ (ccl : Value) (cdd : Option Addr) (vs : Array Value) (ccs : Array (Option Value)) (fl : Str) (tf : Tok), K.lookup F.c = some ⟨ccl, cdd, .fields vs, ccs⟩ ∧ vs[2]? = some (.str fl tf) ∧ ((P.main.file : Str) == fl) = true
  cell : ∃ (c1 : Value) (c2 : Option Addr) (c3 : Array (Option Value)), K.lookup cc = some ⟨c1, c2, .cell (some (.ref C)), c3⟩
  mro : PySem.W.mroIn K C (.ref C) = some true
  sup : PySem.W.ks_superIn K C C "__init__" = some (some (.builtin "ValueError.__init__"))
  sub : PySem.W.subIn K (.ref C) (.type "ValueError") = some true
  any : PySem.W.nsIn K cStatics "thirdparty.any" = some none
  oex : OexC K C
/-- the wrapper is called: the error's args are laid anew -/
theorem call_wrapped {X : Cx} {pins : List (Addr × Obj)} {σ : L2.St} {H : Hp} {s : Shared} {a C u : Addr} {us : List Value} {Q : Value → Shared → Prop} {E : Value → Shared → Prop} (T : OexC X.K C) (I : Inv X pins σ H s) (e : H a = some (exo a C none))
    (hu : s.heap.get? u = some (PySem.W.kxs_mw "ValueError.__init__" a)) (hl : us.length ≤ sizeLine) (h : ∀ s', Inv X pins σ H s' → Q .none s') : wpAny (model X.prog X.w) X.A (call (.ref u) us) Q E s := by
  obtain ⟨nm, q, N, bs, bm, sn, sub, ab, col, dd, k0, k1, k2, k3, k5, hC, hbm⟩ := T.cls
  obtain ⟨t1, ho⟩ := exo_at I.hok e
  have hC' := I.kIn _ _ hC
  obtain ⟨hp, g, d, t, os⟩ := s
  refine wpAny_call (codeAny_of_tree ?_)
  show wpAny _ X.A.in1 (callAny (.ref u) ⟨us, []⟩) _ _ _
  unfold callAny
  refine wpAny_bind (wpAny_load hu ?_)
  simp only [PySem.W.kxs_mw]
  refine PySem.W.KFB.if_so (by decide) ?_
  refine wpAny_bind (PySem.ESX.check_bound F.excBase_ValueError hC' ho rfl ?_)
  refine wpAny_bind (wpAny_pure (wpAny_pure ⟨Code.quiet_builtin _ (by decide +kernel), codeAny_builtin F.excBase_ValueError.initEntry ?_⟩))
  rw [Around.under_plainId F.excBase_ValueError.init.plain _]
  refine PySem.W.exc_init_tree (cls := .ref C) (t0 := t1) (dv := none) (c2 := .none) (c3 := .none) (b4 := .bool false) ho hl fun h' keep hx _ => ?_
  have J := I.write (t' := t) (x := a) (e := a) (o := exo a C none) (by rw [e]; exact True.intro) (.inl rfl) keep ⟨_, hx⟩ (exo_ok hx)
  have eu : upd H a (exo a C none) = H := by
    funext b
    by_cases hb : b = a
    · rw [hb, upd_same, e]
    · rw [upd_ne hb]
  rw [eu] at J
  exact h _ J
/-- the row super().__init__(text) -/
theorem sup_row {X : Cx} {pins : List (Addr × Obj)} {σ : L2.St} {H : Hp} {s : Shared} {C f cc a L : Addr} {F : NdefX.NF} {m : Str} {j : Nat} {p0 p1 p2 p3 p4 p5 : Pos} {body : List Stmt} {ar : Arg} {pl : Sem Bool} {Q : Flow → Shared → Prop}
    (S : SupI X.prog X.K C f F cc) (he : X.env = NdefX.envF F f L) (I : Inv X pins σ H s) (hp : (F.params.posonlyargs ++ F.params.args).head? = some ar) (hN : X.N[0]? = some ar.arg) (hσ : σ[0]? = some (some (.ref a))) (hv : F.scope.names.lookup ar.arg = some .local) (ha : H a = some (exo a C none))
    (hm : X.mg "super" = none) (hks : F.scope.names.lookup ("super" : Str) = some .globalImplicit) (hkc : F.scope.names.lookup ("__class__" : Str) = some .free) (htop : (X.prog.main.scope.names.lookup ("super" : Str)).isSome = false)
    (hq : ∀ s', Inv X pins σ H s' → Q .next s')
    (hint : interactive (NdefX.envF F f L) = false) (hsw : swapsWith (.Call (.Attribute (.Call (.Name "super" p0) [] [] p1) "__init__" p2) [.Constant (.str m) j p3] [] p4) none p5.line (NdefX.envF F f L) = pure false)
    (hev : eval (.Call (.Attribute (.Call (.Name "super" p0) [] [] p1) "__init__" p2) [.Constant (.str m) j p3] [] p4) (NdefX.envF F f L) = (do
      let ov ← attributeBase (.Call (.Name "super" p0) [] [] p1) "__init__" (NdefX.envF F f L) (eval (.Call (.Name "super" p0) [] [] p1) (NdefX.envF F f L))
      standAt p2.atName
      let (g, first) ← holding [ov] (getMethod ov "__init__" pl)
      callWith p4 g first (backTo p4 (starEach [.Constant (.str m) j p3] (NdefX.envF F f L))) [])) :
    _root_.PySem.wpAt (model X.prog X.w) X.A (.func body (NdefX.envF F f L)) (exec (.Expr (.Call (.Attribute (.Call (.Name "super" p0) [] [] p1) "__init__" p2) [.Constant (.str m) j p3] [] p4) p5) (NdefX.envF F f L)) Q X.xe s := by
  obtain ⟨oc, od, osl, doc, pm, ctv, lk⟩ := S.fn
  obtain ⟨ccl, cdd, vs, ccs, fl, tf, lc, hvs, hfl⟩ := S.file
  obtain ⟨c1, c2, c3, lcell⟩ := S.cell
  obtain ⟨t1, ho⟩ := exo_at I.hok ha
  have KX := I.kIn
  have kind : F.scope.kind = .function := by have z := I.ok.kind; rw [he] at z; exact z
  obtain ⟨cd, hcd, hcm⟩ : ∃ cd, PySem.W.clsIn X.K C = some cd ∧ PySem.W.alongIn X.K "__init__" ((cd.mro.dropWhile (· != .ref C)).drop 1) = some (some (.builtin "ValueError.__init__")) := by
    have z := S.sup
    unfold PySem.W.ks_superIn at z
    cases e : PySem.W.clsIn X.K C with
    | none => rw [e] at z; cases z
    | some cd => rw [e] at z; exact ⟨cd, rfl, z⟩
  obtain ⟨oD, hD1, hD2⟩ : ∃ oD, s.heap.get? C = some oD ∧ oD.data = .cls cd := by
    unfold PySem.W.clsIn at hcd
    split at hcd
    · rename_i y1 y2 y3 y4 z
      cases hcd
      exact ⟨_, KX _ _ z, rfl⟩
    · cases hcd
  have J : PySem.W.InstAt s.heap a _ C none := ⟨ho, rfl, rfl, trivial⟩
  have aC : a ≠ C := PySem.W.ks_ne KX J hcd
  obtain ⟨mb, hb1, hb2⟩ := I.mod.blt
  obtain ⟨mL, hmL, hloc⟩ := I.loc
  obtain ⟨u0, ru0, lu0⟩ := hloc 0 ar.arg (.ref a) hN hσ (.inl (by rw [he]; exact hv))
  obtain rfl : u0 = Value.ref a := ru0
  have hv' : mL ar.arg = some (.ref a) := by
    rcases lu0 with ⟨_, z⟩ | ⟨z, _⟩
    · exact z
    · rw [he] at z
      have z' : F.scope.names.lookup ar.arg = some .cell ∨ F.scope.names.lookup ar.arg = some .free := z
      rw [hv] at z'
      rcases z' with z | z <;> cases z
  rw [he] at hmL
  have hgl := I.mod.glob.keeps I.bk
  have hbl := hb1.keeps I.bk
  have hboot : mb ("super" : Str) = some (.type "super") := (hb2 ("super" : Str) (by decide)).trans PyProof.Rows.Boot.super
  refine ks_wpAt_Expr_any (ks_wpAt_MethodCall (ks_wpAt_super_base (env := NdefX.envF F f L) hks hkc (by decide) rfl (KX _ _ lk) rfl hp rfl (KX _ _ lc) rfl hvs hfl htop ?_) hev) hint hsw
  refine PySem.W.ks_loadName_global kind hks (Calls.loadGlobal_builtin (env := NdefX.envF F f L) hgl hm hbl hboot ⟨rfl, ?_⟩)
  refine wpAny_loadName_free kind hkc (c := cc) ?hclo ⟨_, KX _ _ lcell, rfl⟩ ?_
  case hclo => (show F.cl.lookup _ = _; rw [S.cl]; rfl)
  refine wpAny_loadName_local kind hv hmL hv' ?_
  obtain ⟨hp0, g, d, t, os⟩ := s
  refine ks_wpAny_isType_cls hD1 hD2 ⟨rfl, ?_⟩
  refine ks_wpAny_call_super hD1 hD2 ho rfl (fun _ z => nomatch z) (PySem.W.looks_mroIn KX S.mro) fun h1 hso k1 => ?_
  have I1 : Inv X pins σ H ⟨h1, g, d, t, os⟩ := I.kept k1
  obtain ⟨t2, ho1⟩ := exo_at I1.hok ha
  have J1 : PySem.W.InstAt h1 a _ C none := ⟨ho1, rfl, rfl, trivial⟩
  refine PySem.W.kxs_getMethod PySem.W.kxs_ValueError hso (PySem.W.looks_opaque I1.kIn S.any) ((PySem.W.looks_clsIn I1.kIn hcd).andThen .now) rfl I1.kIn hcm (J1.type.andThen (PySem.W.looks_subIn I1.kIn S.sub)) aC (by decide) ?_
  have hu : (h1.push (PySem.W.kxs_mw "ValueError.__init__" a)).get? h1.objs.size = some (PySem.W.kxs_mw "ValueError.__init__" a) := Heap.get?_push_at rfl rfl
  have I2 : Inv X pins σ H ⟨h1.push (PySem.W.kxs_mw "ValueError.__init__" a), g, d, t + 1, os⟩ := I1.kept fun b o e => Heap.get?_push_of_some _ e
  have I3 : Inv X ((h1.objs.size, PySem.W.kxs_mw "ValueError.__init__" a) :: pins) σ H ⟨h1.push (PySem.W.kxs_mw "ValueError.__init__" a), g, d, t + 1, os⟩ :=
    ⟨I2.ok, I2.os, I2.bare, I2.base, I2.loc, I2.cell, I2.free, I2.freeC, fun p hp => by
      rcases List.mem_append.mp hp with z | z
      · exact I2.pin p (List.mem_append_left _ z)
      · rcases List.mem_cons.mp z with e | z
        · rw [e]
          exact ⟨hu, I1.hok.fresh (Nat.le_refl _), Nat.ne_of_gt I1.lt, I1.nofs (Nat.le_refl _), fun _ z => nomatch z⟩
        · exact I2.pin p (List.mem_append_right _ z), I2.hok, I2.len⟩
  have R := (pa_cons (X := X) (pe_str (x := m) (j := j) (pos := p3)) pa_nil).run p4 _ _ σ H (fun vs H1 => vs = [V.str m] ∧ H1 = H) I3 ⟨rfl, rfl⟩
  rw [he] at R
  refine PySem.W.kxs_callWith (i := "ValueError.__init__") (x := a) (by rfl) (Calls.evalArgs_plain (thn R fun us s1 ⟨vs, H1, I4, r, ev, eH⟩ => ?_))
  subst ev eH
  have hu4 := (I4.pin (h1.objs.size, PySem.W.kxs_mw "ValueError.__init__" a) (List.mem_append_right _ List.mem_cons_self)).1
  have I5 : Inv X pins σ H1 s1 := ⟨I4.ok, I4.os, I4.bare, I4.base, I4.loc, I4.cell, I4.free, I4.freeC, fun p hp => I4.pin p (by
    rcases List.mem_append.mp hp with z | z
    · exact List.mem_append_left _ z
    · exact List.mem_append_right _ (List.mem_cons_of_mem _ z)), I4.hok, I4.len⟩
  refine ⟨hu4, call_wrapped S.oex I5 ha hu4 ?_ hq⟩
  show us.length ≤ sizeLine
  rw [← r.length]
  show 1 ≤ sizeLine
  decide
theorem lookup_one {x y : Str} {c d : Addr} (h : ([(x, c)] : List (Str × Addr)).lookup y = some d) : y = x ∧ d = c := by
  rw [List.lookup_cons] at h
  cases e : y == x with
  | true =>
    rw [e] at h
    exact ⟨beq_iff_eq.mp e, (Option.some.inj h).symm⟩
  | false =>
    rw [e] at h
    cases h
/-- THE RULE: an own error's __init__ that begins with super().__init__(text), by the rest of its body -/
theorem fn_super {CX : CXT} {P : Program} {w : World} {K : PySem.W.Frag} {mg : Str → Option Value} {base : Heap} {N ps : List Str} {F : NdefX.NF} {C f cc : Addr} {k : Nat} {sp : Sp} {fd : FuncData} {m : Str} {j : Nat} {p0 p1 p2 p3 p4 p5 : Pos} {rest : List Stmt} {ar : Arg} {pl : Addr → Sem Bool}
    (S : SupI P K C f F cc) (hfd : ∃ doc pm ctv, fd = F.fd doc pm ctv ∧ ∃ oc od osl, K.lookup f = some ⟨oc, od, .func fd, osl⟩) (NS : NdefX.NScope N ps [("__class__" : Str)] F.scope)
    (hbody : F.body = .Expr (.Call (.Attribute (.Call (.Name "super" p0) [] [] p1) "__init__" p2) [.Constant (.str m) j p3] [] p4) p5 :: rest) (hp : (F.params.posonlyargs ++ F.params.args).head? = some ar) (hps : ps[0]? = some ar.arg)
    (hm : mg "super" = none) (hks : F.scope.names.lookup ("super" : Str) = some .globalImplicit) (htop : (P.main.scope.names.lookup ("super" : Str)).isSome = false)
    (hint : ∀ L, interactive (NdefX.envF F f L) = false) (hsw : ∀ L, swapsWith (.Call (.Attribute (.Call (.Name "super" p0) [] [] p1) "__init__" p2) [.Constant (.str m) j p3] [] p4) none p5.line (NdefX.envF F f L) = pure false)
    (hev : ∀ L, eval (.Call (.Attribute (.Call (.Name "super" p0) [] [] p1) "__init__" p2) [.Constant (.str m) j p3] [] p4) (NdefX.envF F f L) = (do
      let ov ← attributeBase (.Call (.Name "super" p0) [] [] p1) "__init__" (NdefX.envF F f L) (eval (.Call (.Name "super" p0) [] [] p1) (NdefX.envF F f L))
      standAt p2.atName
      let (g, first) ← holding [ov] (getMethod ov "__init__" (pl L))
      callWith p4 g first (backTo p4 (starEach [.Constant (.str m) j p3] (NdefX.envF F f L))) []))
    (len : ∀ vs H Q E, sp vs H Q E → vs.length = ps.length) (self : ∀ vs H Q E, sp vs H Q E → ∃ a, vs[0]? = some (.ref a) ∧ H a = some (exo a C none))
    (hrest : ∀ (A : Around) (outer : List Env) (s : Shared) (H : Hp) (vs : List V) (Q : VK) (E : XK), Room k (A.deeper (NdefX.envF F f s.heap.objs.size)) → sp vs H Q E →
      ∃ t, PSs (NdefX.ncx CX P w K mg base N F f A outer s H E) rest t ∧ t { nx := fun _ H' => Q .non H', rt := Q } (NdefX.startF N vs [none]) H) : FnOk P w K mg base CX (k + 1) f fd ps sp := by
  obtain ⟨doc, pm, ctv, rfl, oc, od, osl, lk⟩ := hfd
  refine ⟨len, fun A outer s H args us vs Q E hr e0 hb r hsp => ?_⟩
  have hl := len _ _ _ _ hsp
  have KX : K.In s.heap := e0.mod.kin.keeps fun b o e => (e0.bs b o e).1
  have lim : s.heap.NoLimit := e0.mod.nolimit.keeps fun b o e => (e0.bs b o e).1
  obtain ⟨a, ha0, haH⟩ := self _ _ _ _ hsp
  obtain ⟨c1, c2, c3, lcell⟩ := S.cell
  have cat : NdefX.CellsAt F.cl [("__class__" : Str)] [none] s.heap H := by
    rw [S.cl]
    refine ⟨rfl, fun y c e => ?_, fun x y c e1 e2 => ?_, fun i y e => ?_⟩
    · obtain ⟨_, rfl⟩ := lookup_one e
      exact ⟨(e0.bs _ _ (e0.mod.kin _ _ lcell)).2, _, _, KX _ _ lcell, rfl⟩
    · exact (lookup_one e1).1.trans (lookup_one e2).1.symm
    · cases i with
      | zero =>
        cases e
        exact ⟨cc, rfl, fun v z => nomatch z⟩
      | succ i => cases e
  refine codeAny_call_function hr.depth (KX _ _ lk) rfl NS.co NS.gen rfl (PySem.W.codeRec_of KX S.code) (hb _ _ _ _ ?_)
  refine wpAny_newFunctionEnv NS.nocell (fun ⟨n, _⟩ hy => NS.par n (List.of_mem_zip hy).1) (fun h1 hns hsb => ⟨lim.fresh _ hsb, ?_⟩) NS.kind
  have kp : ∀ b o, s.heap.get? b = some o → h1.get? b = some o := fun b o e => hsb.extBut b o (Nat.ne_of_lt (Heap.lt_size e)) (Heap.get?_push_of_some _ e)
  obtain ⟨t, ht, hq⟩ := hrest A outer s H vs Q E (hr.deeper _) hsp
  have I := NdefX.inv_startN (CX := CX) (E := E) (f := f) (tk := s.toks + (ps.zip us).length) NS hr.hd e0 hl r cat hns kp
  show codeAny _ _ (.func F.body (NdefX.envF F f s.heap.objs.size)) _ _
  refine ks_codeAny_funcAt ?_
  rw [hbody]
  have hl0 : 0 < ps.length := (List.getElem?_eq_some_iff.mp hps).1
  have par : ar.arg ∈ ps := List.mem_of_getElem? hps
  have hN0 : N[0]? = some ar.arg := by
    have q := congrArg (fun l : List Str => l[0]?) NS.pre
    have q2 : (N.take (ps.length + [("__class__" : Str)].length))[0]? = (ps ++ [("__class__" : Str)])[0]? := q
    rw [List.getElem?_take_of_lt (by omega), List.getElem?_append_left hl0, hps] at q2
    exact q2
  have hσ0 : (NdefX.startF N vs [none])[0]? = some (some (.ref a)) := by
    unfold NdefX.startF
    rw [List.getElem?_append_left (by rw [List.length_map]; omega), List.getElem?_map, ha0]; rfl
  refine ks_wpAt_execs_cons (sup_row (X := NdefX.ncx CX P w K mg base N F f A outer s H E) S rfl I hp hN0 hσ0 (NS.par _ par) haH hm hks (NS.frk _ (by simp)) htop (fun s' J => ?_) (hint _) (hsw _) (hev _))
  refine wpAt_of_wpAny (wpAny_mono (ht.run [] s' _ H _ J hq) (fun fl s' hs => ?_) fun e s' hs => hs)
  have fin : ∀ {σ' : L2.St} {H' : Hp} {v : V} {u : Value}, Inv (NdefX.ncx CX P w K mg base N F f A outer s H E) [] σ' H' s' → L2.RelV v u → Q v H' → CE outer P w H s Q u s' :=
    fun {σ' H' v u} J rv q => ⟨v, H', J.os, J.bare, J.base, J.hok, rv, q⟩
  cases fl with
  | ret u =>
    obtain ⟨v, σ', H', J, rv, q⟩ := hs
    exact fin J rv q
  | next =>
    obtain ⟨σ', H', J, q⟩ := hs
    exact fin (v := V.non) (u := Value.none) J rfl q
  | brk =>
    obtain ⟨_, _, _, q⟩ := hs
    exact False.elim q
  | cont =>
    obtain ⟨_, _, _, q⟩ := hs
    exact False.elim q
end Fd
set_option Elab.async false
set_option linter.all false
set_option maxRecDepth 100000
set_option maxHeartbeats 4000000
namespace Fd
open PySem PySem.Spec PyProof.Rows L2 PySem.W
section
variable {X : Cx}
theorem reads_all {β : Type} {R : V → β → Prop} {enc : β → PyData} {pins : List (Addr × Obj)} {σ : L2.St} {H : Hp} {s : Shared} (I : Inv X pins σ H s) (hd : ∀ v b, R v b → Dp X.K H v (enc b)) : ∀ {vs : List V} {us : List Value} {bs : List β}, Vals vs us → Paired R vs bs → ∃ as, ReadsAll s.heap us (bs.map enc) as
  | _, _, _, .nil, .nil => ⟨_, .nil⟩
  | _, _, _, .cons r t, .cons h q => by
    obtain ⟨a1, r1⟩ := Dp.reads I _ _ _ (hd _ _ h) r
    obtain ⟨a2, r2⟩ := reads_all I hd t q
    exact ⟨_, .cons r1 r2⟩
theorem vals_at : ∀ {vs : List V} {us : List Value} {i : Nat} {u : Value}, Vals vs us → us[i]? = some u → ∃ v, vs[i]? = some v ∧ RelV v u
  | _, _, _, _, .nil, e => by simp at e
  | _, _, 0, _, .cons r _, e => by
    have e' := Option.some.inj (by simpa using e)
    subst e'
    exact ⟨_, rfl, r⟩
  | _, _, i + 1, _, .cons _ t, e => by
    obtain ⟨v, h1, h2⟩ := vals_at (i := i) t (by simpa using e)
    exact ⟨v, by simpa using h1, h2⟩
/-- min of a list of data, the first of the least -/
def rMinD (K : Frag) : List V → Hp → VK → Prop := fun xs H Q => ∃ (a : Addr) (vs : List V) (β : Type) (R : V → β → Prop) (enc : β → PyData) (b0 : β) (bs : List β), xs = [.ref a] ∧ (SqL K H a vs ∧ Paired R vs (b0 :: bs)) ∧ (∀ v b, R v b → Dp K H v (enc b)) ∧
  (AlikeAll ((b0 :: bs).map enc) ∧ PyData.depthAll ((b0 :: bs).map enc) ≤ 60) ∧ ∀ v b, b ∈ b0 :: bs → R v b → enc b = minD (enc b0) (bs.map enc) → Q v H
theorem cr_minD {k : Nat} (hr : Room k X.A) (hh : X.calm = true) : CallR X (.builtin "min") (rMinD X.K) := by
  intro pins s σ H xs us Q I r h
  obtain ⟨a, vs, β, R, enc, b0, bs, rfl, ⟨hs, pr⟩, hd, ⟨al, dp⟩, q⟩ := h
  obtain ⟨its, rv, hl, hz⟩ := I.list hs
  obtain ⟨u, rfl, ru⟩ := vals1 r
  obtain rfl : u = Value.ref a := ru
  obtain ⟨as, ra⟩ := reads_all I hd rv pr
  have hu := hr.un
  refine min_list_data (I.ok.hd hh) hl.isList (x := enc b0) (xs := bs.map enc) (as := as) (by simpa using ra) al (by show X.A.units + 1 + PyData.depthAll ((b0 :: bs).map enc) < cLine; omega) fun i v h' tk bs' hv hr' hk => ?_
  have hv' : its[i]? = some v := by simpa using hv
  obtain ⟨w, hw, rw'⟩ := vals_at rv hv'
  obtain ⟨b, hb, rb⟩ := pgetL pr hw
  have J : Inv X pins σ H { s with heap := h', toks := tk } := I.kept hk
  obtain ⟨a2, r2⟩ := Dp.reads J _ _ _ (hd _ _ rb) rw'
  exact ⟨w, H, J, rw', q w b (List.mem_of_getElem? hb) rb (r2.unique _ _ hr').1⟩
/-- isinstance(e, c), e the error that the suite holds, of the class at D, its dict at d -/
def rIsX (K : Frag) (D a : Addr) (d : Option Addr) : List V → Hp → VK → Prop := fun xs H Q => ∃ (c : V) (cv : Value) (b : Bool), xs = [.ref a, c] ∧ (∀ u, RelV c u → u = cv) ∧ kitOne K (.ref D) cv = some b ∧ (∀ dd, d = some dd → ∃ fs, H dd = some (.xd fs)) ∧ Q (.bl b) H
theorem call_isX {a D : Addr} {d : Option Addr} {oe : Obj} {pn : List (Addr × Obj)} (C : ExcC X.K D) (hz : Zc (.ref D) d oe) (hf : ∃ vs, oe.data = .fields vs) : CallR (X.suite a ((a, oe) :: pn)) (.builtin "isinstance") (rIsX X.K D a d) := by
  intro pins s σ H xs us Q I r h
  obtain ⟨c, cv, b, rfl, hcv, e, hdd, q⟩ := h
  obtain ⟨vs, hv⟩ := hf
  obtain ⟨hz1, hz2⟩ := hz
  cases r with
  | cons rx rr =>
    cases rr with
    | cons rt rr =>
      cases rr
      cases rx
      have ecv := hcv _ rt
      subst ecv
      have hget := (I.pin (a, oe) (List.mem_append_left _ List.mem_cons_self)).1
      have nc : notCls oe = true := by unfold notCls; rw [hv]
      have hcl : (clsIn X.K D).isSome = true := by
        obtain ⟨cd, e1, _⟩ := any_some C.hd
        rw [e1]
        rfl
      have fin : ∀ od, InstAt s.heap a oe D od → wpAny (model X.prog X.w) (X.suite a ((a, oe) :: pn)).A (call (.builtin "isinstance") [.ref a, _]) (EP (X.suite a ((a, oe) :: pn)) pins σ Q) (X.suite a ((a, oe) :: pn)).xe s := fun od J =>
        kia_one (kitx_exc (od := od) hcl C.hg C.hk C.hs C.ha C.hn C.ht C.hm) I.kIn J e (fun z => nomatch z) fun tk => ⟨.bl b, H, I.kept (t' := tk) fun _ _ z => z, rfl, q⟩
      cases d with
      | none => exact fin none ⟨hget, hz1, nc, by rw [hz2]; trivial⟩
      | some dd =>
        obtain ⟨fs, hx⟩ := hdd dd rfl
        obtain ⟨mA, ⟨o, es, ep, ho, _⟩, _⟩ : ObjOk X.prog X.w H s.heap dd (.xd fs) := I.hok dd _ hx
        exact fin (some o) ⟨hget, hz1, nc, by rw [hz2]; exact ho⟩
/-- the same, whatever class the error has -/
def rIsY (K : Frag) (cls : Value) (a : Addr) (d : Option Addr) : List V → Hp → VK → Prop := fun xs H Q => ∃ D, cls = .ref D ∧ ExcC K D ∧ rIsX K D a d xs H Q
theorem call_isY {a : Addr} {cls : Value} {d : Option Addr} {oe : Obj} {pn : List (Addr × Obj)} (hz : Zc cls d oe) (hf : ∃ vs, oe.data = .fields vs) : CallR (X.suite a ((a, oe) :: pn)) (.builtin "isinstance") (rIsY X.K cls a d) := by
  intro pins s σ H xs us Q I r h
  obtain ⟨D, rfl, C, h⟩ := h
  exact call_isX C hz hf pins s σ H xs us Q I r h
/-- C(), C an own error without an __init__ of its own -/
theorem pmk_own0 {C : Addr} {bmB : List Value} {B newId initId : String} {x : Str} {p pos : Pos} (F : ExcBaseFacts B newId initId bmB) (q : excIn X.K C bmB newId = true) (gC : X.mg x = some (.ref C)) (kC : keepIn X.K (.ref C) = true) (r : Raises X (.ref C)) (hg : Gl X x)
    (hdb : (x == ("__debug__" : Str)) = false := by decide) : PMk X (.Call (.Name x p) [] [] pos) (fun _ H Q => Q (.ref C) none H) := by
  intro pins s σ H Q I h
  refine wpAny_Call_Name_kw (ld_glob I hg gC ?_ hdb)
  refine callWith_K0 I.kIn kC ?_
  obtain ⟨bm, N, nm, qn, bs, hdct, sn, sub, ab, col, dd, k0, k1, k2, k3, k5, mN, hC, hN, hni, T⟩ := exc_obj I.kIn q
  show wpAny _ _ (call (.ref C) []) _ _ _
  refine wpAny_call_exc_subT F T hC hN hni (fun h' e hm => ?_) (Nat.zero_le _)
  exact mk_of I hm r h (I.hok.gone hm.new)
end
end Fd
set_option Elab.async false
set_option linter.all false
set_option maxRecDepth 100000
set_option maxHeartbeats 4000000
/-! A head's hook with further facts: errors of one's own whose __init__ says super().__init__. -/
namespace Fd
open PySem PySem.Spec PyProof.Rows L2 PySem.W
/-- such an error: its class's name, its __init__ as the text has it, the text's file -/
structure SupD where
  cls : Str
  qual : Str
  params : Arguments
  body : List Stmt
  scope : Scope
  file : Str
abbrev SupV : Type := Option (Str × Str × Arguments × FuncBody × Scope × Addr × List Str × Addr)
def iAd (K : Frag) (c : Str) : Addr := He.ma K (He.ga K c) "__init__"
def supV (K : Frag) (c : Str) : SupV := match K.lookup (iAd K c) with
  | some ⟨_, _, .func fd, _⟩ => some (fd.name, fd.qualname, fd.params, fd.body, fd.scope, fd.globals, fd.closure.map (·.1), fd.builtins)
  | _ => none
def SupD.val (d : SupD) : SupV := some ("__init__", d.qual, d.params, .stmts d.body, d.scope, mainGlobals, ["__class__"], builtinsNs)
def fileB (K : Frag) (c : Addr) (file : Str) : Bool := match K.lookup c with
  | some ⟨_, _, .fields vs, _⟩ => (match (vs[2]? : Option Value) with
    | some (.str fl _) => file == fl
    | _ => false)
  | _ => false
def cellB (K : Frag) (cc C : Addr) : Bool := match K.lookup cc with
  | some ⟨_, _, .cell (some (.ref D)), _⟩ => decide (D = C)
  | _ => false
def initB (K : Frag) (d : SupD) : Bool := match K.lookup (iAd K d.cls) with
  | some ⟨_, _, .func fd, _⟩ => (match fd.closure, fd.code, fd.defaults, fd.kwdefaults, fd.annotations with
    | [(_, cc)], .ref c, .none, .none, none => codeIn K (.ref c) d.qual && (fileB K c d.file && cellB K cc (He.ga K d.cls))
    | _, _, _, _, _ => false)
  | _ => false
/-- an own error's class -/
def oexB (K : Frag) (C : Addr) : Bool := (match K.lookup C with
  | some ⟨.type "type", _, .cls cd, sl⟩ => (match cd.mro, sl.toList with
    | .ref C' :: bm, [_, _, _, _, some (.builtin n), _] => decide (C' = C) && (decide (n = "ValueError.__new__") && (!cd.hasDel && (cd.hasDict && PySem.HandSPX.refsVE bm)))
    | _, _ => false)
  | _ => false) && (decide (findIn K (.ref C) "__setattr__" = some (some (.builtin "object.__setattr__"))) && (decide (subIn K (.ref C) (.type "BaseException") = some true) && (decide (typeIn K (.ref C) = some (.type "type")) && keepIn K (.ref C))))
theorem oexB_ok {K : Frag} {C : Addr} (h : oexB K C = true) : OexC K C := by
  unfold oexB at h
  obtain ⟨h1, h⟩ := He.ba h
  obtain ⟨h2, h⟩ := He.ba h
  obtain ⟨h3, h⟩ := He.ba h
  obtain ⟨h4, h5⟩ := He.ba h
  refine ⟨?_, of_decide_eq_true h2, of_decide_eq_true h3, of_decide_eq_true h4, h5⟩
  split at h1
  · rename_i dd cd sl ho
    split at h1
    · rename_i C' bm k0 k1 k2 k3 n k5 hm hs
      obtain ⟨e1, h1⟩ := He.ba h1
      obtain ⟨e2, h1⟩ := He.ba h1
      obtain ⟨e3, h1⟩ := He.ba h1
      obtain ⟨e4, e5⟩ := He.ba h1
      obtain rfl := of_decide_eq_true e1
      obtain rfl := of_decide_eq_true e2
      obtain ⟨nm, bs, mro, ns, qn, hd, sn, sub, ab, col, del⟩ := cd
      dsimp only at hm e3 e4
      subst hm e4
      obtain rfl : del = false := by simpa using e3
      obtain ⟨l⟩ := sl
      have hs' : l = [k0, k1, k2, k3, some (.builtin "ValueError.__new__"), k5] := hs
      subst hs'
      exact ⟨nm, qn, ns, bs, bm, sn, sub, ab, col, dd, k0, k1, k2, k3, k5, ho, e5⟩
    · cases h1
  · cases h1
def supB (K : Frag) (d : SupD) : Bool := initB K d && (oexB K (He.ga K d.cls) && (decide (mroIn K (He.ga K d.cls) (.ref (He.ga K d.cls)) = some true) && (decide (ks_superIn K (He.ga K d.cls) (He.ga K d.cls) "__init__" = some (some (.builtin "ValueError.__init__"))) &&
  (decide (subIn K (.ref (He.ga K d.cls)) (.type "ValueError") = some true) && decide (nsIn K cStatics "thirdparty.any" = some none)))))
abbrev SupD.nf (d : SupD) (cc c : Addr) : NdefX.NF := ⟨"__init__", d.qual, d.params, d.body, d.scope, [(("__class__" : Str), cc)], c⟩
theorem supI_of {P : Program} {K : Frag} {d : SupD} (hP : ((P.main.file : Str) == d.file) = true) (e : supV K d.cls = d.val) (c : supB K d = true) :
    ∃ cc ca, SupI P K (He.ga K d.cls) (iAd K d.cls) (d.nf cc ca) cc ∧ ∃ fd, (∃ doc pm ctv, fd = (d.nf cc ca).fd doc pm ctv ∧ ∃ oc od osl, K.lookup (iAd K d.cls) = some ⟨oc, od, .func fd, osl⟩) := by
  unfold supB at c
  obtain ⟨c1, c⟩ := He.ba c
  obtain ⟨c2, c⟩ := He.ba c
  obtain ⟨c3, c⟩ := He.ba c
  obtain ⟨c4, c⟩ := He.ba c
  obtain ⟨c5, c6⟩ := He.ba c
  unfold supV at e
  unfold initB at c1
  cases q : K.lookup (iAd K d.cls) with
  | none =>
    rw [q] at c1
    cases c1
  | some o =>
    obtain ⟨oc, od, dt, osl⟩ := o
    rw [q] at c1 e
    cases dt with
    | func fd =>
      obtain ⟨n1, n2, n3, n4, n5, n6, n7, n8, n9, n10, n11, n12, n13, n14, n15⟩ := fd
      have e2 : (some (n1, n2, n3, n4, n5, n6, n7.map (·.1), n15) : SupV) = some (("__init__" : Str), d.qual, d.params, FuncBody.stmts d.body, d.scope, mainGlobals, [("__class__" : Str)], builtinsNs) := e
      simp only [Option.some.injEq, Prod.mk.injEq] at e2
      obtain ⟨h1, h2, h3, h4, h5, h6, h7, h8⟩ := e2
      subst h1 h2 h3 h4 h5 h6 h8
      dsimp only at c1
      split at c1
      · rename_i x cc ca
        obtain ⟨z1, z2⟩ := He.ba c1
        obtain ⟨z2, z3⟩ := He.ba z2
        have ex : x = ("__class__" : Str) := by
          have := h7
          simpa using this
        subst ex
        refine ⟨cc, ca, ⟨⟨oc, od, osl, n10, n11, n14, q⟩, rfl, z1, ?_, ?_, of_decide_eq_true c3, of_decide_eq_true c4, of_decide_eq_true c5, of_decide_eq_true c6, oexB_ok c2⟩, _, n10, n11, n14, rfl, oc, od, osl, rfl⟩
        · unfold fileB at z2
          split at z2
          · rename_i ccl cdd vs ccs hl
            split at z2
            · rename_i fl tf hv
              refine ⟨ccl, cdd, vs, ccs, fl, tf, hl, hv, ?_⟩
              rw [← eq_of_beq z2]
              exact hP
            · cases z2
          · cases z2
        · unfold cellB at z3
          split at z3
          · rename_i w1 w2 w3 w4 hl
            obtain rfl := of_decide_eq_true z3
            exact ⟨_, _, _, hl⟩
          · cases z3
      · cases c1
    | _ => cases c1
/-! ### the hook -/
def asX (g : Addr → Option Obj) (n : Nat) : List Addr := cStatics :: He.asD g n
abbrev AlX : Type := Bool × List SupV × He.AlD
def obsX (fa : List He.Fa) (fn : List He.DefD) (sd : List SupD) (xs : List (Frag → Bool)) (K : Frag) : AlX := ((xs.all fun f => f K) && sd.all fun d => supB K d, sd.map fun d => supV K d.cls, He.obsD fa fn K)
def valX (fn : List He.DefD) (sd : List SupD) : AlX := (true, sd.map SupD.val, He.valD fn)
def SaysX (fa : List He.Fa) (fn : List He.DefD) (sd : List SupD) (xs : List (Frag → Bool)) (K : Frag) : Prop := obsX fa fn sd xs K = valX fn sd
def obsXG (n : Nat) (fa : List He.Fa) (fn : List He.DefD) (sd : List SupD) (xs : List (Frag → Bool)) (g : Addr → Option Obj) : AlX := obsX fa fn sd xs (He.frG g (asX g n))
def hookX (n : Nat) (fa : List He.Fa) (fn : List He.DefD) (sd : List SupD) (xs : List (Frag → Bool)) : Hook where
  α := AlX
  obs := fun s => obsXG n fa fn sd xs s.heap.get?
  val := fun _ => valX fn sd
  says := fun _ h => ∃ K : Frag, K.In h ∧ SaysX fa fn sd xs K
  of := fun _ _ e => ⟨_, He.frG_in, e⟩
  keeps := fun _ _ _ ⟨K, hK, c⟩ k => ⟨K, Frag.In.keeps hK k, c⟩
theorem obsXG_eq {n : Nat} {fa : List He.Fa} {fn : List He.DefD} {sd : List SupD} {xs : List (Frag → Bool)} {g : Addr → Option Obj} {s : Shared} (h : ∀ a, g a = s.heap.get? a) : obsXG n fa fn sd xs g = (hookX n fa fn sd xs).obs s := by
  have e : g = s.heap.get? := funext h
  rw [e] <;> rfl
section
variable {fa : List He.Fa} {fn : List He.DefD} {sd : List SupD} {xs : List (Frag → Bool)} {K : Frag}
theorem SaysX.d (c : SaysX fa fn sd xs K) : He.SaysD fa fn K := congrArg (fun z : AlX => z.2.2) c
theorem SaysX.fact (c : SaysX fa fn sd xs K) (i : Nat) {f : Frag → Bool} (h : xs[i]? = some f := by rfl) : f K = true := by
  have c1 := (He.ba (show ((xs.all fun f => f K) && sd.all fun d => supB K d) = true from congrArg (fun z : AlX => z.1) c)).1
  exact List.all_eq_true.mp c1 f (List.mem_of_getElem? h)
theorem SaysX.sup (c : SaysX fa fn sd xs K) (i : Nat) {d : SupD} (h : sd[i]? = some d := by rfl) : supB K d = true ∧ supV K d.cls = d.val := by
  have c1 := (He.ba (show ((xs.all fun f => f K) && sd.all fun d => supB K d) = true from congrArg (fun z : AlX => z.1) c)).2
  have e : (sd.map fun d => supV K d.cls) = sd.map SupD.val := congrArg (fun z : AlX => z.2.1) c
  have e2 : (sd.map fun d => supV K d.cls)[i]? = (sd.map SupD.val)[i]? := by rw [e]
  rw [List.getElem?_map, List.getElem?_map, h] at e2
  exact ⟨List.all_eq_true.mp c1 d (List.mem_of_getElem? h), Option.some.inj e2⟩
end
end Fd
set_option Elab.async false
set_option linter.all false
set_option maxRecDepth 100000
set_option maxHeartbeats 4000000
namespace Fd
open PySem PySem.Spec PyProof.Rows L2
abbrev s_TooMany_init : Stmt := inClass (top 4) 0
abbrev P_TooMany_init : List Str := ["self", "most"]
abbrev N_TooMany_init : List Str := ["self", "most", "__class__"]
def D_TooMany : SupD := ⟨"TooMany", "TooMany.__init__", defArgs s_TooMany_init, defBody s_TooMany_init, defScope s_TooMany_init, "/claim/cut.py"⟩
theorem sc_TooMany_init : NdefX.NScope N_TooMany_init P_TooMany_init ["__class__"] (defScope s_TooMany_init) := NdefX.nscope_by (by decide +kernel)
/-- what the top has written of the errors -/
structure Err (P : Program) (K : PySem.W.Frag) (mg : Str → Option Value) where
  (a_FalseError a_OtherSizes a_TooMany f_TooMany cc_TooMany ca_TooMany : Addr)
  (d_TooMany_init : FuncData)
  g_FalseError : mg "FalseError" = some (.ref a_FalseError)
  g_OtherSizes : mg "OtherSizes" = some (.ref a_OtherSizes)
  g_TooMany : mg "TooMany" = some (.ref a_TooMany)
  n_super : mg "super" = none
  x_OtherSizes : PySem.W.excIn K a_OtherSizes He.veBase "ValueError.__new__" = true
  k_OtherSizes : PySem.W.keepIn K (.ref a_OtherSizes) = true
  s_OtherSizes : PySem.W.subIn K (.ref a_OtherSizes) (.type "BaseException") = some true
  t_OtherSizes : PySem.W.typeIn K (.ref a_OtherSizes) = some (.type "type")
  u_TooMany : SupI P K a_TooMany f_TooMany (D_TooMany.nf cc_TooMany ca_TooMany) cc_TooMany
  fd_TooMany : ∃ doc pm ctv, d_TooMany_init = (D_TooMany.nf cc_TooMany ca_TooMany).fd doc pm ctv ∧ ∃ oc od osl, K.lookup f_TooMany = some ⟨oc, od, .func d_TooMany_init, osl⟩
  i_TooMany : PySem.W.findIn K (.ref a_TooMany) "__init__" = some (some (.ref f_TooMany))
  t_TooMany : PySem.W.typeIn K (.ref f_TooMany) = some (.type "function")
  no_TooMany : PySem.W.findIn K (.ref a_TooMany) "most" = some none
  b_TooMany_init : Binds K d_TooMany_init P_TooMany_init []
def sp_many (C : Addr) : Sp := fun xs H Q _ => ∃ a m, xs = [.ref a, .int m] ∧ H a = some (exo a C none) ∧ ∀ dx, H dx = none → dx ≠ a → Q .non (upd (upd H dx (exd dx [("most", .int m)])) a (exo a C (some dx)))
theorem ok_TooMany_init {P : Program} {w : World} {K : PySem.W.Frag} {mg : Str → Option Value} {base : Heap} {CX : CXT} (Er : Err P K mg) (htop : (P.main.scope.names.lookup ("super" : Str)).isSome = false) : FnOk P w K mg base CX 1 Er.f_TooMany Er.d_TooMany_init P_TooMany_init (sp_many Er.a_TooMany) := by
  refine fn_super Er.u_TooMany Er.fd_TooMany sc_TooMany_init rfl rfl rfl Er.n_super (show (defScope s_TooMany_init).names.lookup ("super" : Str) = some .globalImplicit by decide +kernel) htop (fun L => rfl) (fun L => rfl) (fun L => rfl) ?_ ?_ ?_
  · rintro vs H Q E ⟨a, m, rfl, _⟩
    rfl
  · rintro vs H Q E ⟨a, m, rfl, h, _⟩
    exact ⟨a, rfl, h⟩
  · rintro A outer s H vs Q E hr ⟨a, m, rfl, h, q⟩
    refine ⟨_, pss_one (ps_ost (pv 0) (pv 1)), ?_⟩
    exact ⟨_, rfl, _, rfl, a, Er.a_TooMany, rfl, Er.u_TooMany.oex, Er.no_TooMany, .inl ⟨h, q⟩⟩
end Fd
set_option Elab.async false
set_option linter.all false
set_option maxRecDepth 100000
set_option maxHeartbeats 4000000
namespace Fd
open PySem PySem.Spec PyProof.Rows L2
/-- a dict of numbers of pairs -/
def NumAt (H : Hp) (d : Addr) (ps : List (List Int)) : Prop := ∃ kvs, H d = some (.dT kvs) ∧ kvs.length = ps.length ∧ ∀ g : List Int, valV kvs (keyI g) = if g ∈ ps then some (.int (ps.idxOf g : Nat)) else none
theorem NumAt.ke {H H' : Hp} {d : Addr} {ps : List (List Int)} (x : NumAt H d ps) (k : Ke H H') : NumAt H' d ps := by
  obtain ⟨kvs, h, l, f⟩ := x
  exact ⟨kvs, k.at h, l, f⟩
theorem num_len {kvs : List (List Key × V)} {ps : List (List Int)} {g0 : List Int} {v : V} (h : g0 ∉ ps) (l : kvs.length = ps.length) (f : ∀ g : List Int, valV kvs (keyI g) = if g ∈ ps then some (.int (ps.idxOf g : Nat)) else none) : (putK kvs (keyI g0) v).length = (ps ++ [g0]).length := by
  rw [putK_new v (by rw [f, if_neg h]), List.length_append, List.length_append, l]; rfl
theorem num_put {kvs : List (List Key × V)} {ps : List (List Int)} {g0 : List Int} (h : g0 ∉ ps) (f : ∀ g : List Int, valV kvs (keyI g) = if g ∈ ps then some (.int (ps.idxOf g : Nat)) else none) (g : List Int) :
    valV (putK kvs (keyI g0) (.int ps.length)) (keyI g) = if g ∈ ps ++ [g0] then some (.int ((ps ++ [g0]).idxOf g : Nat)) else none := by
  rw [valV_put]
  by_cases c : keyI g = keyI g0
  · rw [if_pos c]
    have := keyI_inj c
    subst this
    rw [if_pos (by simp), List.idxOf_append, if_neg h]
    simp
  · rw [if_neg c, f]
    by_cases m : g ∈ ps
    · rw [if_pos m, if_pos (by simp [m]), List.idxOf_append, if_pos m]
    · have n : g ∉ ps ++ [g0] := fun z => by
        rcases List.mem_append.mp z with q | q
        · exact m q
        · exact c (by rw [List.mem_singleton.mp q])
      rw [if_neg m, if_neg n]
/-- few moves in a row -/
def Small (o : Ofc) : Prop := (∀ r ∈ o.mv, r.length ≤ 900) ∧ ∀ r ∈ o.cl, r.length ≤ 900
theorem at0_len {α : Type} {xs : List (List α)} {n : Nat} (h : ∀ r ∈ xs, r.length ≤ n) (i : Int) : (at0 xs i).length ≤ n := by
  unfold at0
  cases e : xs[i.toNat]? with
  | none => exact Nat.zero_le _
  | some r => exact h r (List.mem_of_getElem? e)
theorem flat_len {α β : Type} {f : α → List β} {n : Nat} (h : ∀ a, (f a).length ≤ n) : ∀ l : List α, (l.flatMap f).length ≤ l.length * n
  | [] => by simp
  | a :: l => by
    have := flat_len h l
    have := h a
    rw [List.flatMap_cons, List.length_append, List.length_cons, Nat.succ_mul]; omega
theorem Wf.goals {o : Ofc} (w : Wf o) : GoalsOk o := fun r hr m hm => by
  obtain ⟨a, b, c, s, n, k, g, _, rfl, _, _, _, h1, h2⟩ := (w.mv r hr).2 m hm
  show 0 ≤ g ∧ g < _
  omega
theorem Ke.then {S : Addr → Prop} {H H1 H2 : Hp} (x : Ke H H1) (y : Ks S H1 H2) (n : ∀ a, S a → H a = none) : Ke H H2 :=
  ⟨fun a o _ h => y.keep a o (fun z => by rw [n a z] at h; cases h) (x.at h), fun a xs h => y.tup a xs (x.tup a xs h), fun a h => y.there a (x.there a h)⟩
end Fd
set_option Elab.async false
set_option linter.all false
set_option maxRecDepth 100000
set_option maxHeartbeats 4000000
/-! The sets that a reader keeps, in plain lists. -/
namespace Fd
def subsOf : List Int → List (List Int)
  | [] => [[]]
  | x :: l => subsOf l ++ (subsOf l).map (x :: ·)
theorem len_subsOf : ∀ l : List Int, (subsOf l).length = 2 ^ l.length
  | [] => rfl
  | x :: l => by
    show (subsOf l ++ (subsOf l).map (x :: ·)).length = 2 ^ (l.length + 1)
    rw [List.length_append, List.length_map, len_subsOf l, Nat.pow_succ]; omega
theorem mem_subsOf : ∀ {l s : List Int}, l.Pairwise (· < ·) → s.Pairwise (· < ·) → (∀ x ∈ s, x ∈ l) → s ∈ subsOf l
  | [], [], _, _, _ => by simp [subsOf]
  | [], y :: s, _, _, h => by have := h y (by simp); cases this
  | x :: l, [], h1, _, _ => List.mem_append_left _ (mem_subsOf (List.pairwise_cons.mp h1).2 .nil (fun _ z => by cases z))
  | x :: l, y :: s, h1, h2, h => by
    obtain ⟨p1, q1⟩ := List.pairwise_cons.mp h1
    obtain ⟨p2, q2⟩ := List.pairwise_cons.mp h2
    by_cases c : y = x
    · subst c
      refine List.mem_append_right _ (List.mem_map.mpr ⟨s, mem_subsOf q1 q2 fun z hz => ?_, rfl⟩)
      rcases List.mem_cons.mp (h z (by simp [hz])) with q | q
      · have := p2 z hz; omega
      · exact q
    · have hy : y ∈ l := by
        rcases List.mem_cons.mp (h y (by simp)) with q | q
        · exact absurd q c
        · exact q
      have hxy := p1 y hy
      refine List.mem_append_left _ (mem_subsOf q1 h2 fun z hz => ?_)
      rcases List.mem_cons.mp hz with q | q
      · rw [q]; exact hy
      · rcases List.mem_cons.mp (h z (by simp [q])) with q' | q'
        · have := p2 z q; omega
        · exact q'
theorem ran_sorted (n : Nat) : (ran n).Pairwise (· < ·) := by
  unfold ran
  rw [List.pairwise_map]
  refine List.Pairwise.imp ?_ List.pairwise_lt_range
  intro a b h
  show (a : Int) < b
  omega
def SetOk (o : Ofc) (s : List Int) : Prop := s ≠ [] ∧ s.Pairwise (· < ·) ∧ ∀ x ∈ s, 0 ≤ x ∧ x < o.mv.length
noncomputable def stepsOf (o : Ofc) : List (List Int) := stepsM (o.sz.getD 0 0) (o.sz.getD 1 0) (o.sz.getD 2 0)
/-- the sets that can be come to -/
inductive Reach (o : Ofc) : List Int → Prop
  | z : Reach o [0]
  | s {s st : List Int} : Reach o s → st ∈ stepsOf o → goalsM o s st ≠ [] → Reach o (goalsM o s st)
structure KsI (o : Ofc) (ks : List (List Int)) : Prop where
  hd : ks[0]? = some [0]
  nd : ks.Nodup
  ok : ∀ s ∈ ks, SetOk o s
  le : ks.length ≤ 60
  rc : ∀ s ∈ ks, Reach o s
theorem KsI.len {o : Ofc} {ks : List (List Int)} (k : KsI o ks) (h : o.mv.length ≤ 5) : ks.length ≤ 32 := by
  have h1 := len_sub (b := subsOf (ran o.mv.length)) k.nd fun s hs => mem_subsOf (ran_sorted _) (k.ok s hs).2.1 fun x hx => mem_ran.mpr ((k.ok s hs).2.2 x hx)
  have h2 : (ran o.mv.length).length = o.mv.length := by unfold ran; simp
  rw [len_subsOf, h2] at h1
  exact Nat.le_trans h1 (Nat.pow_le_pow_right (by decide) h : 2 ^ o.mv.length ≤ 2 ^ 5)
theorem KsI.addk {o : Ofc} {ks : List (List Int)} (k : KsI o ks) {g : List Int} (h : SetOk o g) (hl : ks.length < 60) (hr : Reach o g) : KsI o (addk ks g) := by
  refine ⟨?_, addk_nodup k.nd, fun s hs => ?_, ?_, fun s hs => ?_⟩
  · unfold Fd.addk
    split
    · exact k.hd
    · have := k.hd
      have hl : 0 < ks.length := by
        rcases Nat.eq_zero_or_pos ks.length with z | z
        · rw [List.length_eq_zero_iff.mp z] at this; cases this
        · exact z
      rw [List.getElem?_append_left hl]; exact this
  · rcases mem_addk.mp hs with z | z
    · exact k.ok s z
    · rw [z]; exact h
  · unfold Fd.addk
    split
    · exact k.le
    · rw [List.length_append]; exact hl
  · rcases mem_addk.mp hs with z | z
    · exact k.rc s z
    · rw [z]; exact hr
/-- the first t sets lead to kept sets alone -/
def Closed (o : Ofc) (ks : List (List Int)) (t : Nat) : Prop := ∀ i s, i < t → ks[i]? = some s → ∀ st ∈ stepsOf o, goalsM o s st ≠ [] → goalsM o s st ∈ ks
theorem goals_ok {o : Ofc} (g : GoalsOk o) {s st : List Int} (h : goalsM o s st ≠ []) : SetOk o (goalsM o s st) := by
  refine ⟨h, sorted_usort _, fun x hx => ?_⟩
  obtain ⟨a, _, hx⟩ := List.mem_flatMap.mp (mem_usort.mp hx)
  obtain ⟨m, hm, e⟩ := List.mem_filterMap.mp hx
  obtain ⟨r, hr, hm⟩ := at0_mem hm
  have := g r hr m hm
  by_cases c : m.take 3 = st
  · rw [if_pos c] at e
    have e2 : m.getD 3 0 = x := by rw [List.getD_eq_getElem?_getD, e]; rfl
    rw [e2] at this; exact this
  · rw [if_neg c] at e; cases e
theorem idx_app {ks r : List (List Int)} {g : List Int} (h : g ∈ ks) : (ks ++ r).idxOf g = ks.idxOf g := by
  rw [List.idxOf_append, if_pos h]
end Fd
set_option Elab.async false
set_option linter.all false
set_option maxRecDepth 100000
set_option maxHeartbeats 4000000
namespace Fd
open PySem PySem.Spec PyProof.Rows L2
theorem put_tx {H : Hp} {d : Addr} {o o' : HO} (h : H d = some o) (n : ∀ xs, o ≠ .tup xs) : Tx H (upd H d o') := ⟨fun a xs e => by
  rw [upd_ne (ne_of e h (fun z => n xs z.symm))]; exact e⟩
theorem Ks.comp {S S' U : Addr → Prop} {H H1 H2 : Hp} (x : Ks S H H1) (y : Ks S' H1 H2) (m : ∀ a, S a → U a) (n : ∀ a, S' a → U a ∨ H a = none) : Ks U H H2 :=
  ⟨fun a o u h => y.keep a o (fun z => (n a z).elim u fun q => by rw [q] at h; cases h) (x.keep a o (fun z => u (m a z)) h), fun a xs h => y.tup a xs (x.tup a xs h), fun a h => y.there a (x.there a h)⟩
theorem steps_len {o : Ofc} (wf : Wf o) : (stepsOf o).length ≤ 250047 := by
  obtain ⟨a, b, c, ez, ha, hb, hc⟩ := wf.sz
  have lr : ∀ x : Int, x ≤ 63 → (ran x).length ≤ 63 := fun x h => by unfold ran; rw [List.length_map, List.length_range]; omega
  have e : stepsOf o = stepsM a b c := by unfold stepsOf; rw [ez]; rfl
  rw [e]
  unfold stepsM
  have h1 := flat_len (f := fun x => (ran c).map fun k => x ++ [k]) (n := 63) (fun x => by rw [List.length_map]; exact lr c hc.2) ((ran a).flatMap fun s => (ran b).map fun n => [s, n])
  have h2 := flat_len (f := fun s => (ran b).map fun n => [s, n]) (n := 63) (fun x => by rw [List.length_map]; exact lr b hb.2) (ran a)
  have h3 := lr a ha.2
  omega
theorem pimp' {α β : Type} {F G : α → β → Prop} : ∀ {l : List α} {m : List β}, (∀ a b, b ∈ m → F a b → G a b) → Paired F l m → Paired G l m
  | _, _, _, .nil => .nil
  | _, _, f, .cons h t => .cons (f _ _ (by simp) h) (pimp' (fun a b hb => f a b (by simp [hb])) t)
structure RC (K : PySem.W.Frag) (C : Addr) : Prop where
  c : Cls K C
  n1 : NoAttr K C "table"
  n2 : NoAttr K C "shut"
  n3 : NoAttr K C "kept_sets"
def rdF (vt vs vk : V) : List (Str × V) := putF "kept_sets" vk (putF "shut" vs (putF "table" vt []))
section
variable (vt vs vk : V)
theorem rdF_t : (rdF vt vs vk).lookup ("table" : Str) = some vt := by
  unfold rdF
  rw [lookup_putF, if_neg (by decide +kernel), lookup_putF, if_neg (by decide +kernel), lookup_putF, if_pos rfl]
theorem rdF_s : (rdF vt vs vk).lookup ("shut" : Str) = some vs := by
  unfold rdF
  rw [lookup_putF, if_neg (by decide +kernel), lookup_putF, if_pos rfl]
theorem rdF_k : (rdF vt vs vk).lookup ("kept_sets" : Str) = some vk := by
  unfold rdF
  rw [lookup_putF, if_pos rfl]
theorem rdF_no {m : Str} (h1 : ¬ m = "table") (h2 : ¬ m = "shut") (h3 : ¬ m = "kept_sets") : (rdF vt vs vk).lookup m = none := by
  unfold rdF
  rw [lookup_putF, if_neg h3, lookup_putF, if_neg h2, lookup_putF, if_neg h1]
  rfl
end
/-- a row of the table: the steps that lead on from s, and where to -/
def RowAt (o : Ofc) (ks : List (List Int)) (sts : List (List Int)) : Rl (List Int) := fun H v s => ∃ (d : Addr) (kvs : List (List Key × V)) (rk : List (List Int)), v = .ref d ∧ H d = some (.dT kvs) ∧ kvs.map (·.1) = rk.map keyI ∧ rk.Nodup ∧ (∀ st, st ∈ rk ↔ st ∈ sts ∧ goalsM o s st ≠ []) ∧
  ∀ st : List Int, valV kvs (keyI st) = if st ∈ rk then some (.int (ks.idxOf (goalsM o s st) : Nat)) else none
theorem RowAt.sto {o : Ofc} {ks sts : List (List Int)} : Sto (RowAt o ks sts) := fun H H' v s k ⟨d, kvs, rk, e, hd, h⟩ => ⟨d, kvs, rk, e, k.at hd, h⟩
theorem RowAt.grow {o : Ofc} {ks sts r : List (List Int)} {H : Hp} {v : V} {s : List Int} (x : RowAt o ks sts H v s) (h : ∀ st ∈ sts, goalsM o s st ≠ [] → goalsM o s st ∈ ks) : RowAt o (ks ++ r) sts H v s := by
  obtain ⟨d, kvs, rk, e, hd, h1, h2, h3, h4⟩ := x
  refine ⟨d, kvs, rk, e, hd, h1, h2, h3, fun st => ?_⟩
  rw [h4]
  by_cases c : st ∈ rk
  · obtain ⟨c1, c2⟩ := (h3 st).mp c
    rw [if_pos c, if_pos c, idx_app (h st c1 c2)]
  · rw [if_neg c, if_neg c]
/-- a reader stands at p: its kept sets are ks -/
structure ReaderAt (C : Addr) (H : Hp) (p : Addr) (o : Ofc) (ks : List (List Int)) : Prop where
  ex : ∃ dx tl sl kl tws sws kws, H p = some (.ins C dx (rdF (.ref tl) (.ref sl) (.ref kl))) ∧ (H tl = some (.lst tws) ∧ Paired (RowAt o ks (stepsOf o) H) tws ks) ∧ (H sl = some (.lst sws) ∧ Paired (TI H) sws (ks.map (lastsM o))) ∧ H kl = some (.lst kws) ∧ Paired (TI H) kws ks
theorem ReaderAt.ke {C : Addr} {H H' : Hp} {p : Addr} {o : Ofc} {ks : List (List Int)} (x : ReaderAt C H p o ks) (k : Ke H H') : ReaderAt C H' p o ks := by
  obtain ⟨dx, tl, sl, kl, tws, sws, kws, h1, ⟨h2, h3⟩, ⟨h4, h5⟩, h6, h7⟩ := x.ex
  exact ⟨dx, tl, sl, kl, tws, sws, kws, k.at h1, ⟨k.at h2, pimp (fun v x r => RowAt.sto _ _ v x k r) h3⟩, ⟨k.at h4, pimp (fun v x r => TI.stb _ _ v x k.tx r) h5⟩, k.at h6, pimp (fun v x r => TI.stb _ _ v x k.tx r) h7⟩
/-- what an office leans on is no new instance -/
theorem OffAt.off {C C' : Addr} {H : Hp} {po p dx : Addr} {sz : List Int} {mv : List (List (List Int))} {cl : List (List Int)} (x : OffAt C H po sz mv cl) (hp : H p = some (.ins C' dx [])) : OffAt C (Hd (fun a => a = p) H) po sz mv cl := by
  obtain ⟨dx', vs, vm, vc, l, ds, h1, h2, h3, h4, h5, h6⟩ := x.ex
  have tx : Tx H (Hd (fun a => a = p) H) := ⟨fun a xs h => Hd.get (fun e => by rw [e, hp] at h; cases h) h⟩
  refine ⟨dx', vs, vm, vc, l, ds, Hd.get (fun e => ?_) h1, TI.stb _ _ _ _ tx h2, TT.stb (TT.stb TI.stb) _ _ _ _ tx h3, TT.stb TI.stb _ _ _ _ tx h4, Hd.get (fun e => by rw [e, hp] at h5; cases h5) h5, pimp (fun v row ⟨d, kvs, e, hd, g1, g2⟩ => ?_) h6⟩
  · rw [e, hp] at h1
    have e2 := congrArg (fun o => match o with | some (HO.ins _ _ fs) => fs.lookup ("sizes" : Str) | _ => none) h1
    have e3 : (none : Option V) = (offF vs vm vc (.ref l)).lookup ("sizes" : Str) := e2
    rw [offF_s] at e3
    cases e3
  · exact ⟨d, kvs, e, Hd.get (fun e => by rw [e, hp] at hd; cases hd) hd, g1, fun st => (g2 st).imp id fun ⟨li, z1, z2⟩ => ⟨li, z1, Hd.get (fun e => by rw [e, hp] at z2; cases z2) z2⟩⟩
theorem ks_exc {S : Addr → Prop} {H H7 : Hp} {e d : Addr} {o1 o2 o3 o4 : HO} (k : Ks S H H7) (he : H7 e = none) (hd : H7 d = none) (n : d ≠ e) : Ks S H (upd (del (upd (upd (upd H7 e o1) d o2) e o3) e) d o4) := by
  have g : ∀ a o, H7 a = some o → (upd (del (upd (upd (upd H7 e o1) d o2) e o3) e) d o4) a = some o := fun a o h => by
    have a1 : a ≠ d := ne_of_none h hd
    have a2 : a ≠ e := ne_of_none h he
    rw [upd_ne a1, del_ne a2, upd_ne a2, upd_ne a1, upd_ne a2]; exact h
  exact k.trans (Ke.of g).ks
/-- more sets can be come to than a reader keeps -/
def Over (o : Ofc) : Prop := ∃ l : List (List Int), l.Nodup ∧ l.length = 61 ∧ ∀ s ∈ l, Reach o s
def sp_reader (K : PySem.W.Frag) (C CT : Addr) : Sp := fun xs H Q E => ∃ p dx po o C1, xs = [.ref p, .ref po] ∧ H p = some (.ins C dx []) ∧ OC K C1 ∧ OfAt C1 H po o ∧ Wf o ∧
  (Over o → ∀ d H', Ks (fun a => a = p) H H' → H' d = some (.xd [("most", .int 60)]) → E (.ref CT) (some d) H') ∧
  ∀ ks H', KsI o ks → Closed o ks ks.length → Ks (fun a => a = p) H H' → ReaderAt C H' p o ks → Q .non H'
/-- the heap while the steps of one set are taken -/
structure MidR (o : Ofc) (p kd kl rd : Addr) (H5 : Hp) (ks : List (List Int)) (s : List Int) (dn : List (List Int)) (ks' : List (List Int)) (kvs : List (List Key × V)) (rk : List (List Int)) (ws : List V) (H' : Hp) : Prop where
  kk : Ks (fun a => a = kd ∨ a = kl ∨ a = rd) H5 H'
  pre : ∃ r, ks' = ks ++ r
  ki : KsI o ks'
  num : NumAt H' kd ks'
  kp : H' kl = some (.lst ws)
  kw : Paired (TI H') ws ks'
  row : H' rd = some (.dT kvs)
  rke : kvs.map (·.1) = rk.map keyI
  rnd : rk.Nodup
  rm : ∀ st, st ∈ rk ↔ st ∈ dn ∧ goalsM o s st ≠ []
  rv : ∀ st : List Int, valV kvs (keyI st) = if st ∈ rk then some (.int (ks'.idxOf (goalsM o s st) : Nat)) else none
  cl : ∀ st ∈ dn, goalsM o s st ≠ [] → goalsM o s st ∈ ks'
section
variable {P : Program} {w : World} {K : PySem.W.Frag} {mg : Str → Option Value} {base : Heap} (T : Txt K mg) (Er : Err P K mg) (htop : (P.main.scope.names.lookup ("super" : Str)).isSome = false)
include T
theorem Txt.rc : RC K T.a_Reader := ⟨T.c_Reader, T.f_Reader_table, T.f_Reader_shut, T.f_Reader_kept_sets⟩
include Er htop
theorem ok_Reader_init : FnOk P w K mg base (L2.CX P w) 5 T.a_Reader_init T.d_Reader_init P_Reader_init (sp_reader K T.a_Reader Er.a_TooMany) := by
  refine T.F_Reader_init.okX sc_Reader_init (fun vs H Q E h => ?_) (fun cdv A outer s H vs Q E hr h => ?_)
  · obtain ⟨p, dx, po, o, C1, rfl, _⟩ := h; rfl
  · obtain ⟨p, dx, po, o, C1, rfl, hp, oc, of, wf, kE, k⟩ := h
    have tk : Takes (cxOf (L2.CX P w) P w K mg base N_Reader_init "Reader.__init__" (defScope s_Reader_init) T.a_Reader_init cdv A outer s H E) (fun cls d _ H' => E cls d H') := takes_of rfl rfl rfl rfl
    have pso := passes_of (X := cxOf (L2.CX P w) P w K mg base N_Reader_init "Reader.__init__" (defScope s_Reader_init) T.a_Reader_init cdv A outer s H E) rfl
    have hu := hu_of hr
    have rc := T.rc
    obtain ⟨a, b, c, ez, ha, hb, hc⟩ := wf.sz
    have est : stepsOf o = stepsM a b c := by unfold stepsOf; rw [ez]; rfl
    have ofd := of.off hp
    have ofp : ∀ {H'}, Ks (fun a => a = p) H H' → OfAt C1 H' po o := fun kk => (ofd.ke (Hd.ke kk)).ke (Le.ke Hd.le)
    refine ⟨_, (pss_cons (ps_fld (pv 0) (pe_lst pa_nil) rfl)
  (pss_cons (ps_fld (pv 0) (pe_lst pa_nil) rfl)
  (pss_cons (ps_fld (pv 0) (pe_lst (pa_cons (pe_tup (pa_cons pe_int pa_nil)) pa_nil)) rfl)
  (pss_cons (ps_set (i := 2) sc_Reader_init.nd rfl (Or.inl rfl) (pe_call (ok_all_steps T) (hr.mono (by decide)) rfl T.g_all_steps T.k_all_steps T.b_all_steps .nil pass0 (pa_cons (pv 1) pa_nil)))
  (pss_cons (ps_set (i := 3) sc_Reader_init.nd rfl (Or.inl rfl) (pe_dispT hu (pe_tup (pa_cons pe_int pa_nil)) pe_int))
  (pss_one (ps_while pso (pt_cmpR op_lt (pe_callB call_len (by rfl) T.n_len (by decide +kernel) (pa_cons (pe_fld (pv 0) rfl) pa_nil)) (pe_callB call_len (by rfl) T.n_len (by decide +kernel) (pa_cons (pe_fld (pv 0) rfl) pa_nil)) (nomark _)) (pss_cons (ps_set (i := 4) sc_Reader_init.nd rfl (Or.inl rfl) (pe_ix ix_list (pe_fld (pv 0) rfl) (pe_callB call_len (by rfl) T.n_len (by decide +kernel) (pa_cons (pe_fld (pv 0) rfl) pa_nil)) (fun _ _ => rfl)))
  (pss_cons (ps_set (i := 5) sc_Reader_init.nd rfl (Or.inl rfl) pe_dnewT)
  (pss_cons (ps_for pso rfl (pi_list (pv 2)) (pg_name (i := 6) sc_Reader_init.nd rfl (Or.inl rfl)) (pss_cons (ps_set (i := 7) sc_Reader_init.nd rfl (Or.inl rfl) (pe_call (ok_goals_of T) (hr.mono (by decide)) rfl T.g_goals_of T.k_goals_of T.b_goals_of .nil pass0 (pa_cons (pv 1) (pa_cons (pv 4) (pa_cons (pv 6) pa_nil)))))
  (pss_one (ps_if (pt_cmpR op_gt (pe_callB call_len (by rfl) T.n_len (by decide +kernel) (pa_cons (pv 7) pa_nil)) pe_int (nomark _)) (pss_cons (ps_if (pt_cmp (pc_dnotin hu (pv 7) (pv 3))) (pss_cons (ps_if (pt_cmpR op_eq (pe_callB call_len_dT (by rfl) T.n_len (by decide +kernel) (pa_cons (pv 3) pa_nil)) (pe_glob (v := .int (60)) rfl T.g_MOST_SETS ⟨_, rfl⟩) (nomark _)) (pss_one (ps_raise rfl tk (pmk_oex (CX := CX0) Er.u_TooMany.oex Er.i_TooMany Er.t_TooMany (ok_TooMany_init Er htop) (hr.mono (by decide)) Er.b_TooMany_init .nil pass0 rfl Er.g_TooMany (pa_cons (pe_glob (v := .int (60)) rfl T.g_MOST_SETS ⟨_, rfl⟩) pa_nil)))) pss_nil)
  (pss_cons (ps_dput hu (pv 3) (pv 7) (pe_callB call_len_dT (by rfl) T.n_len (by decide +kernel) (pa_cons (pv 3) pa_nil)) rfl)
  (pss_one (ps_expr (pe_bm PySem.F.plainAttrs_list PySem.F.slot_list_append PySem.F.type_list_append mt_append (pe_fld (pv 0) rfl) (pa_cons (pv 7) pa_nil)))))) pss_nil)
  (pss_one (ps_dput hu (pv 5) (pv 6) (pe_dget hu (pv 3) (pv 7) (fun _ _ => rfl)) rfl))) pss_nil))))
  (pss_cons (ps_expr (pe_bm PySem.F.plainAttrs_list PySem.F.slot_list_append PySem.F.type_list_append mt_append (pe_fld (pv 0) rfl) (pa_cons (pv 5) pa_nil)))
  (pss_one (ps_expr (pe_bm PySem.F.plainAttrs_list PySem.F.slot_list_append PySem.F.type_list_append mt_append (pe_fld (pv 0) rfl) (pa_cons (pe_call (ok_lasts_of T) (hr.mono (by decide)) rfl T.g_lasts_of T.k_lasts_of T.b_lasts_of .nil pass0 (pa_cons (pv 1) (pa_cons (pv 4) pa_nil))) pa_nil))))))))))))))), ?_⟩
    -- table, shut, kept_sets
    refine ⟨by decide, fun tl htl => ?_⟩
    have n1 : p ≠ tl := ne_of_none hp htl
    refine ⟨_, rfl, p, _, dx, [], rfl, by rw [upd_ne n1]; exact hp, rc.c, rc.n1, by decide, ?_⟩
    refine ⟨by decide, fun sl hsl => ?_⟩
    have n2 : p ≠ sl := fun z => by rw [← z, upd_same] at hsl; cases hsl
    refine ⟨_, rfl, p, _, dx, _, rfl, by rw [upd_ne n2, upd_same], rc.c, rc.n2, (by show 1 < 1000; decide), ?_⟩
    refine ⟨(by show 1 ≤ sizeLine; decide), fun t0 ht0 => ⟨(by show 1 ≤ sizeLine; decide), fun kl hkl => ?_⟩⟩
    have n3 : p ≠ t0 := fun z => by rw [← z, upd_same] at ht0; cases ht0
    have n4 : p ≠ kl := fun z => by rw [← z, upd_ne n3, upd_same] at hkl; cases hkl
    refine ⟨_, rfl, p, _, dx, _, rfl, by rw [upd_ne n4, upd_ne n3, upd_same], rc.c, rc.n3, (by show 2 < 1000; decide), ?_⟩
    have htl0 : H tl = none := htl
    have t1 : tl ≠ sl := fun z => by rw [← z, upd_ne n1.symm, upd_same] at hsl; cases hsl
    have hsl0 : H sl = none := by rw [upd_ne n2.symm, upd_ne t1.symm] at hsl; exact hsl
    have t2 : tl ≠ t0 := fun z => by rw [← z, upd_ne n1.symm, upd_ne t1, upd_ne n1.symm, upd_same] at ht0; cases ht0
    have t3 : sl ≠ t0 := fun z => by rw [← z, upd_ne n2.symm, upd_same] at ht0; cases ht0
    have ht00 : H t0 = none := by rw [upd_ne n3.symm, upd_ne t3.symm, upd_ne n3.symm, upd_ne t2.symm] at ht0; exact ht0
    have t4 : tl ≠ kl := fun z => by rw [← z, upd_ne t2, upd_ne n1.symm, upd_ne t1, upd_ne n1.symm, upd_same] at hkl; cases hkl
    have t5 : sl ≠ kl := fun z => by rw [← z, upd_ne t3, upd_ne n2.symm, upd_same] at hkl; cases hkl
    have t6 : t0 ≠ kl := fun z => by rw [← z, upd_same] at hkl; cases hkl
    have hkl0 : H kl = none := by rw [upd_ne t6.symm, upd_ne n4.symm, upd_ne t5.symm, upd_ne n4.symm, upd_ne t4.symm] at hkl; exact hkl
    generalize hH1 : upd (upd (upd (upd (upd (upd (upd H tl _) p _) sl _) p _) t0 _) kl _) p _ = H1
    have h1p : H1 p = some (.ins T.a_Reader dx (rdF (.ref tl) (.ref sl) (.ref kl))) := by rw [← hH1]; exact upd_same
    have h1t : H1 tl = some (.lst []) := by rw [← hH1, upd_ne n1.symm, upd_ne t4, upd_ne t2, upd_ne n1.symm, upd_ne t1, upd_ne n1.symm, upd_same]
    have h1s : H1 sl = some (.lst []) := by rw [← hH1, upd_ne n2.symm, upd_ne t5, upd_ne t3, upd_ne n2.symm, upd_same]
    have h10 : H1 t0 = some (.tup [.int 0]) := by rw [← hH1, upd_ne n3.symm, upd_ne t6, upd_same]
    have h1k : H1 kl = some (.lst [.ref t0]) := by rw [← hH1, upd_ne n4.symm, upd_same]
    have nt : ∀ {H' : Hp} {fs}, H' p = some (.ins T.a_Reader dx fs) → ∀ xs, H' p ≠ some (.tup xs) := fun h xs z => by rw [h] at z; cases z
    have k1 : Ks (fun a => a = p) H H1 := by
      rw [← hH1]
      exact (((((((Ks.refl (S := fun a => a = p)).mutNew htl0).mut rfl (nt (by rw [upd_ne n1]; exact hp))).mutNew hsl0).mut rfl (nt (by rw [upd_ne n2, upd_same]))).mutNew ht00).mutNew hkl0).mut rfl (nt (by rw [upd_ne n4, upd_ne n3, upd_same]))
    -- steps
    refine ⟨_, rfl, C1, po, o, a, b, c, rfl, oc, ofp k1, wf, ez, fun stl stw H2 hst1 k2 hst2 pst => ?_⟩
    rw [← est] at pst
    -- known
    intro kd hkd
    refine ⟨(by show 1 ≤ sizeLine; decide), fun t ht => ?_⟩
    have ntkd : t ≠ kd := fun z => by rw [z, upd_same] at ht; cases ht
    refine ⟨by rw [upd_ne ntkd.symm, upd_same], keyI [0], t, rfl, by rw [upd_same]; rfl, ?_⟩
    have k3 : Ke H2 (upd (upd (upd H2 kd (.dT [])) t (.tup [.int 0])) kd (.dT [(keyI [0], .int 0)])) := ((Ke.new hkd).trans (Ke.new ht)).mutNew hkd
    generalize hH3 : upd (upd (upd H2 kd (.dT [])) t (.tup [.int 0])) kd (.dT [(keyI [0], .int 0)]) = H3 at k3 ⊢
    have h3k : H3 kd = some (.dT [(keyI [0], .int 0)]) := by rw [← hH3, upd_same]
    have hkd1 : H1 kd = none := k2.free hkd
    have hkd0 : H kd = none := k1.free hkd1
    have k23 : Ke H1 H3 := k2.trans k3
    have hst3 : H3 stl = some (.lst stw) := k3.at hst2
    have pst3 : Paired (TI H3) stw (stepsOf o) := pimp (fun v x r => TI.stb _ _ v x k3.tx r) pst
    have m1 : tl ≠ kd := ne_of_none h1t hkd1
    have m2 : sl ≠ kd := ne_of_none h1s hkd1
    have m3 : kl ≠ kd := ne_of_none h1k hkd1
    have lst63 := steps_len wf
    have hst0 : H stl = none := k1.free hst1
    have nst : stl ≠ tl ∧ stl ≠ sl ∧ stl ≠ kl ∧ stl ≠ kd ∧ stl ≠ p := ⟨(ne_of_none h1t hst1).symm, (ne_of_none h1s hst1).symm, (ne_of_none h1k hst1).symm, ne_of_none hst2 hkd, (ne_of_none h1p hst1).symm⟩
    have npkd : p ≠ kd := ne_of_none h1p hkd1
    refine while_by (fun σ H' => ∃ ks t tws sws kws, KsI o ks ∧ t ≤ ks.length ∧ Closed o ks t ∧ (∃ s4 s5 s6 s7, σ = [some (.ref p), some (.ref po), some (.ref stl), some (.ref kd), s4, s5, s6, s7]) ∧ Ks (fun a => a = p) H H' ∧ H' p = some (.ins T.a_Reader dx (rdF (.ref tl) (.ref sl) (.ref kl))) ∧
        (H' stl = some (.lst stw) ∧ Tx H3 H') ∧ NumAt H' kd ks ∧ (H' tl = some (.lst tws) ∧ Paired (RowAt o ks (stepsOf o) (Hd (fun a => a = tl ∨ a = sl ∨ a = kl ∨ a = kd) H')) tws (ks.take t)) ∧ (H' sl = some (.lst sws) ∧ Paired (TI H') sws ((ks.take t).map (lastsM o))) ∧ H' kl = some (.lst kws) ∧ Paired (TI H') kws ks)
      (fun σ H' => match H' tl with | some (.lst ws) => 70 - ws.length | _ => 0) ?_ ?_ ?_
    · have hw : 1 ≤ o.mv.length := wf.n1
      refine ⟨[[0]], 0, [], [], [.ref t0], ⟨rfl, by simp, fun s hs => ?_, by decide, fun s hs => by rw [List.mem_singleton.mp hs]; exact .z⟩, by simp, (fun i s hi => by omega), ⟨_, _, _, _, rfl⟩, k1.trans k23.ks, k23.at h1p, ⟨hst3, .refl⟩, ⟨_, h3k, rfl, fun g => ?_⟩, ⟨k23.at h1t, .nil⟩, ⟨k23.at h1s, .nil⟩, k23.at h1k, .cons ⟨t0, rfl, k23.at h10⟩ .nil⟩
      · rw [List.mem_singleton.mp hs]
        exact ⟨by simp, by simp, fun x hx => by rw [List.mem_singleton.mp hx]; omega⟩
      · show valV [(keyI [0], V.int 0)] (keyI g) = if g ∈ [[0]] then _ else none
        by_cases c : g = [0]
        · rw [if_pos (by simp [c]), valV_pos (by rw [c]), c]; rfl
        · rw [if_neg (by simpa using c), valV_neg (fun z => c (keyI_inj z).symm)]; rfl
    · rintro σ H4 ⟨ks, t, tws, sws, kws, ki, tle, cls, ⟨s4, s5, s6, s7, rfl⟩, k4, hp4, ⟨hst4, tx4⟩, num, ⟨ht4, pt4⟩, ⟨hs4, ps4⟩, hk4, pk4⟩
      have lt := plen pt4
      have lk := plen pk4
      have l32 := ki.le
      rw [List.length_take] at lt
      refine ⟨_, rfl, p, _, dx, _, _, rfl, hp4, rc.c, rc.n1, rdF_t _ _ _, .ref tl, tws.length, rfl, .inl ⟨_, SqL.of ht4, rfl⟩, _, rfl, p, _, dx, _, _, rfl, hp4, rc.c, rc.n3, rdF_k _ _ _, .ref kl, kws.length, rfl, .inl ⟨_, SqL.of hk4, rfl⟩, _, _, rfl, rfl, _, rfl, ?_⟩
      refine ite2 (fun c => ?_) (fun c => ?_)
      · have hlt : t < ks.length := by have := of_decide_eq_true c; omega
        obtain ⟨s, hs⟩ : ∃ s, ks[t]? = some s := ⟨_, List.getElem?_eq_getElem hlt⟩
        have hsm := List.mem_of_getElem? hs
        obtain ⟨sv, hsv, rsv⟩ := pget pk4 hs
        have sok := ki.ok s hsm
        -- standings, row
        refine ⟨_, rfl, p, _, dx, _, _, rfl, hp4, rc.c, rc.n3, rdF_k _ _ _, _, rfl, p, _, dx, _, _, rfl, hp4, rc.c, rc.n1, rdF_t _ _ _, .ref tl, tws.length, rfl, .inl ⟨_, SqL.of ht4, rfl⟩, kl, kws, _, sv, rfl, rfl, SqL.of hk4, atI_nat hsv (by omega), ?_⟩
        intro rd hrd
        have k5 : Ke H4 (upd H4 rd (.dT [])) := Ke.new hrd
        have hrd5 : (upd H4 rd (.dT [])) rd = some (.dT []) := upd_same
        generalize hH5 : upd H4 rd (.dT []) = H5 at k5 hrd5 ⊢
        have r1 : tl ≠ rd := ne_of_none ht4 hrd
        have r2 : sl ≠ rd := ne_of_none hs4 hrd
        have r3 : kl ≠ rd := ne_of_none hk4 hrd
        have r4 : kd ≠ rd := by obtain ⟨_, z, _⟩ := num; exact ne_of_none z hrd
        have r5 : p ≠ rd := ne_of_none hp4 hrd
        have r6 : stl ≠ rd := ne_of_none hst4 hrd
        have hrd0 : H rd = none := k4.free hrd
        have nSp : ∀ a, (a = kd ∨ a = kl ∨ a = rd) → a = p ∨ H a = none := by
          rintro a (rfl | rfl | rfl)
          · exact .inr hkd0
          · exact .inr hkl0
          · exact .inr hrd0
        have kp5 : Ks (fun a => a = p) H H5 := k4.trans k5.ks
        refine ⟨_, rfl, stl, rfl, ⟨_, SqL.of (k5.at hst4)⟩, fo_L (R := TI H3) (fun dn σ H' => (∃ s6 s7, σ = [some (.ref p), some (.ref po), some (.ref stl), some (.ref kd), some sv, some (.ref rd), s6, s7]) ∧ ∃ ks' kvs rk ws, MidR o p kd kl rd H5 ks s dn ks' kvs rk ws H') pst3
          ⟨⟨_, _, rfl⟩, ks, [], [], kws, ⟨.refl, ⟨[], by simp⟩, ki, num.ke k5, k5.at hk4, pimp (fun v x r => TI.stb _ _ v x k5.tx r) pk4, hrd5, rfl, .nil, (fun st => by simp), (fun st => rfl), (fun st hst => by cases hst)⟩⟩
          (fun dn σ H' q => by obtain ⟨_, _, _, _, _, m⟩ := q; exact m.kk.keep _ _ (fun z => z.elim nst.2.2.2.1 fun z => z.elim nst.2.2.1 r6) (k5.at hst4)) ?_ ?_⟩
        · rintro dn st r v σ H6 e ⟨sta, rfl, hsta⟩ ⟨⟨s6, s7, rfl⟩, ks', kvs, rk, ws, m⟩
          have kp6 : Ks (fun a => a = p) H H6 := kp5.comp m.kk (fun _ z => z) nSp
          have t36 : Tx H3 H6 := tx4.trans (k5.tx.trans m.kk.tx)
          refine ⟨_, rfl, _, rfl, _, rfl, C1, po, o, sv, _, s, st, rfl, oc, ofp kp6, wf, TI.stb _ _ _ _ (k5.tx.trans m.kk.tx) rsv, ⟨sta, rfl, t36.tup _ _ hsta⟩, sok.2.2, ?_⟩
          rintro gv H7 k7 ⟨ga, rfl, hga⟩
          have hst7 := k7.at (t36.tup _ _ hsta)
          have m7 : MidR o p kd kl rd H5 ks s dn ks' kvs rk ws H7 := ⟨m.kk.trans k7.ks, m.pre, m.ki, m.num.ke k7, k7.at m.kp, pimp (fun v x r => TI.stb _ _ v x k7.tx r) m.kw, k7.at m.row, m.rke, m.rnd, m.rm, m.rv, m.cl⟩
          clear m k7
          have hp7 : H7 p = some (.ins T.a_Reader dx (rdF (.ref tl) (.ref sl) (.ref kl))) := m7.kk.keep _ _ (fun z => z.elim npkd fun z => z.elim n4 r5) (k5.at hp4)
          have ldn : dn.length < (stepsOf o).length := by rw [e]; simp
          have lrk : rk.length ≤ dn.length := len_sub m7.rnd fun x hx => ((m7.rm x).mp hx).1
          have lkv : kvs.length = rk.length := by have := congrArg List.length m7.rke; simpa using this
          refine ⟨_, rfl, .ref ga, _, rfl, .inr ⟨_, SqT.of hga, rfl⟩, _, _, rfl, rfl, _, rfl, ?_⟩
          by_cases hg0 : goalsM o s st = []
          · rw [hg0]
            refine ifF (by simp) ⟨⟨_, _, rfl⟩, ks', kvs, rk, ws, m7.kk, m7.pre, m7.ki, m7.num, m7.kp, m7.kw, m7.row, m7.rke, m7.rnd, fun x => ?_, m7.rv, fun x hx hne => ?_⟩
            · rw [m7.rm]
              constructor
              · rintro ⟨q1, q2⟩; exact ⟨by simp [q1], q2⟩
              · rintro ⟨q1, q2⟩
                rcases List.mem_append.mp q1 with z | z
                · exact ⟨z, q2⟩
                · rw [List.mem_singleton.mp z] at q2; exact absurd hg0 q2
            · rcases List.mem_append.mp hx with z | z
              · exact m7.cl x z hne
              · rw [List.mem_singleton.mp z] at hne; exact absurd hg0 hne
          · have lg : 0 < (goalsM o s st).length := List.length_pos_iff.mpr hg0
            refine ifT (by rw [List.length_map]; omega) ?_
            obtain ⟨kvk, hkd7, lkk, fkk⟩ := m7.num
            have l32' := m7.ki.le
            have rch : Reach o (goalsM o s st) := .s (m7.ki.rc s (by obtain ⟨r0, er0⟩ := m7.pre; rw [er0]; exact List.mem_append_left _ hsm)) (by first | assumption | (rw [e]; simp)) hg0
            have dg : DGet H7 kd (.ref ga) (valV kvk (keyI (goalsM o s st))) := DGet.t hkd7 (by rw [keyI_kV]; exact hga)
            refine ⟨_, rfl, _, rfl, kd, _, rfl, dg, _, rfl, ?_⟩
            rw [fkk]
            have lws := plen m7.kw
            rcases Classical.em (goalsM o s st ∈ ks') with hg | hg
            case' inl =>
              rw [if_pos hg]
              refine iteF ?_
              have F : ∃ ks2 ws2, Ks (fun a => a = kd ∨ a = kl ∨ a = rd) H5 H7 ∧ (∃ r, ks2 = ks ++ r) ∧ KsI o ks2 ∧ NumAt H7 kd ks2 ∧ H7 kl = some (.lst ws2) ∧ Paired (TI H7) ws2 ks2 ∧ H7 rd = some (.dT kvs) ∧ Tx H7 H7 ∧ goalsM o s st ∈ ks2 ∧ ∀ g ∈ ks', g ∈ ks2 ∧ ks2.idxOf g = ks'.idxOf g :=
                ⟨ks', ws, m7.kk, m7.pre, m7.ki, m7.num, m7.kp, m7.kw, m7.row, .refl, hg, fun g h => ⟨h, rfl⟩⟩
            case' inr =>
              rw [if_neg hg]
              refine iteT ⟨_, rfl, kd, kvk, rfl, hkd7, rfl, _, rfl, ite2 (fun c => ?_) (fun c => ?_)⟩
              · have e60 : kvk.length = 60 := by have z := of_decide_eq_true c; injection z with z; omega
                refine ⟨by decide, fun ea hea => ⟨ea, 60, rfl, upd_same, fun d hd nd => ⟨rfl, d, [("most", .int 60)], upd_same, by rw [upd_ne nd]; exact upd_same, (by rw [upd_ne nd] at hd; exact hd), kE ⟨ks' ++ [goalsM o s st], ?_, by rw [List.length_append, ← lkk, e60]; rfl, fun x hx => ?_⟩ d _ (ks_exc (kp5.comp m7.kk (fun _ z => z) nSp) hea (by rw [upd_ne nd] at hd; exact hd) nd) upd_same⟩⟩⟩
                · have := addk_nodup (g := goalsM o s st) m7.ki.nd
                  unfold addk at this
                  rw [if_neg hg] at this
                  exact this
                · rcases List.mem_append.mp hx with z | z
                  · exact m7.ki.rc x z
                  · rw [List.mem_singleton.mp z]; exact rch
              have n60 : ks'.length < 60 := by
                have := m7.ki.le
                rcases Nat.lt_or_ge ks'.length 60 with z | z
                · exact z
                · have e60 : kvk.length = 60 := by omega
                  rw [e60] at c
                  exact absurd (decide_eq_true rfl) c
              refine ⟨_, rfl, kd, kvk, rfl, hkd7, _, rfl, _, rfl, kd, _, rfl, DPut.t (k := keyI (goalsM o s st)) hkd7 (by rw [keyI_kV]; exact hga) (by rw [sizeLine_eq]; omega), ?_⟩
              have hp8 : (upd H7 kd (.dT (putK kvk (keyI (goalsM o s st)) (.int kvk.length)))) p = some (.ins T.a_Reader dx (rdF (.ref tl) (.ref sl) (.ref kl))) := by rw [upd_ne npkd]; exact hp7
              have hk8 : (upd H7 kd (.dT (putK kvk (keyI (goalsM o s st)) (.int kvk.length)))) kl = some (.lst ws) := by rw [upd_ne m3]; exact m7.kp
              refine ⟨_, rfl, p, _, dx, _, _, rfl, hp8, rc.c, rc.n3, rdF_k _ _ _, .inl ⟨rfl, _, SqL.of hk8⟩, _, rfl, kl, ws, _, rfl, rfl, hk8, by rw [sizeLine_eq]; omega, ?_⟩
              have F : ∃ ks2 ws2, Ks (fun a => a = kd ∨ a = kl ∨ a = rd) H5 (upd (upd H7 kd (.dT (putK kvk (keyI (goalsM o s st)) (.int kvk.length)))) kl (.lst (ws ++ [.ref ga]))) ∧ (∃ r, ks2 = ks ++ r) ∧ KsI o ks2 ∧ NumAt (upd (upd H7 kd (.dT (putK kvk (keyI (goalsM o s st)) (.int kvk.length)))) kl (.lst (ws ++ [.ref ga]))) kd ks2 ∧ (upd (upd H7 kd (.dT (putK kvk (keyI (goalsM o s st)) (.int kvk.length)))) kl (.lst (ws ++ [.ref ga]))) kl = some (.lst ws2) ∧
                  Paired (TI (upd (upd H7 kd (.dT (putK kvk (keyI (goalsM o s st)) (.int kvk.length)))) kl (.lst (ws ++ [.ref ga])))) ws2 ks2 ∧ (upd (upd H7 kd (.dT (putK kvk (keyI (goalsM o s st)) (.int kvk.length)))) kl (.lst (ws ++ [.ref ga]))) rd = some (.dT kvs) ∧ Tx H7 (upd (upd H7 kd (.dT (putK kvk (keyI (goalsM o s st)) (.int kvk.length)))) kl (.lst (ws ++ [.ref ga]))) ∧ goalsM o s st ∈ ks2 ∧ ∀ g ∈ ks', g ∈ ks2 ∧ ks2.idxOf g = ks'.idxOf g := by
                have tx : Tx H7 (upd (upd H7 kd (.dT (putK kvk (keyI (goalsM o s st)) (.int kvk.length)))) kl (.lst (ws ++ [.ref ga]))) := ⟨fun a xs h => by
                  rw [upd_ne (ne_of h m7.kp (fun z => nomatch z)), upd_ne (ne_of h hkd7 (fun z => nomatch z))]; exact h⟩
                obtain ⟨r0, er0⟩ := m7.pre
                refine ⟨ks' ++ [goalsM o s st], ws ++ [.ref ga], (m7.kk.mut (.inl rfl) (fun ys z => by rw [hkd7] at z; cases z)).mut (.inr (.inl rfl)) (fun ys z => by rw [hk8] at z; cases z), ⟨r0 ++ [goalsM o s st], by rw [er0, List.append_assoc]⟩, ?_, ⟨_, by rw [upd_ne m3.symm, upd_same], num_len hg lkk fkk, ?_⟩, upd_same, papp (pimp (fun v x r => TI.stb _ _ v x tx r) m7.kw) (.cons ⟨ga, rfl, tx.tup _ _ hga⟩ .nil), by rw [upd_ne r3.symm, upd_ne r4.symm]; exact m7.row, tx, by simp, fun g h => ⟨by simp [h], idx_app h⟩⟩
                · have := m7.ki.addk (goals_ok wf.goals hg0) n60 rch
                  unfold addk at this
                  rw [if_neg hg] at this
                  exact this
                · rw [lkk]; exact num_put hg fkk
            all_goals
              obtain ⟨ks2, ws2, f1, f2, f3, ⟨kvk2, f4, f4', f4''⟩, f5, f6, f7, f8, f9, f10⟩ := F
              have fx : valV kvk2 (keyI (goalsM o s st)) = some (.int (ks2.idxOf (goalsM o s st) : Nat)) := by rw [f4'', if_pos f9]
              refine ⟨_, rfl, _, rfl, kd, _, rfl, by rw [← fx]; exact DGet.t f4 (by rw [keyI_kV]; exact f8.tup _ _ hga), _, rfl, _, rfl, rd, _, rfl, DPut.t (k := keyI st) f7 (by rw [keyI_kV]; exact f8.tup _ _ hst7) (by rw [sizeLine_eq]; omega), ⟨_, _, rfl⟩, ks2, putK kvs (keyI st) (.int (ks2.idxOf (goalsM o s st) : Nat)), addk rk st, ws2, ?_⟩
              have txR := put_tx (o' := .dT (putK kvs (keyI st) (.int (ks2.idxOf (goalsM o s st) : Nat)))) f7 (fun _ z => nomatch z)
              refine ⟨f1.mut (.inr (.inr rfl)) (fun ys z => by rw [f7] at z; cases z), f2, f3, ⟨kvk2, by rw [upd_ne r4]; exact f4, f4', f4''⟩, by rw [upd_ne r3]; exact f5, pimp (fun v x r => TI.stb _ _ v x txR r) f6, upd_same, keys_put keyI (fun _ _ z => keyI_inj z) m7.rke, addk_nodup m7.rnd, fun x => ?_, fun x => ?_, fun x hx hne => ?_⟩
              · rw [mem_addk, m7.rm]
                constructor
                · rintro (⟨q1, q2⟩ | q)
                  · exact ⟨by simp [q1], q2⟩
                  · rw [q]; exact ⟨by simp, hg0⟩
                · rintro ⟨q1, q2⟩
                  rcases List.mem_append.mp q1 with z | z
                  · exact .inl ⟨z, q2⟩
                  · exact .inr (List.mem_singleton.mp z)
              · rw [valV_put]
                by_cases cx : x = st
                · subst cx
                  rw [if_pos rfl, if_pos (mem_addk.mpr (.inr rfl))]
                · rw [if_neg (fun z => cx (keyI_inj z)), m7.rv]
                  by_cases cr : x ∈ rk
                  · rw [if_pos cr, if_pos (mem_addk.mpr (.inl cr)), (f10 _ (m7.cl x ((m7.rm x).mp cr).1 ((m7.rm x).mp cr).2)).2]
                  · rw [if_neg cr, if_neg (fun z => (mem_addk.mp z).elim cr cx)]
              · rcases List.mem_append.mp hx with z | z
                · exact (f10 _ (m7.cl x z hne)).1
                · rw [List.mem_singleton.mp z]; exact f9
        · rintro σ H6 ⟨⟨s6, s7, rfl⟩, ks', kvs, rk, ws, m⟩
          have kp6 : Ks (fun a => a = p) H H6 := kp5.comp m.kk (fun _ z => z) nSp
          have hp6 : H6 p = some (.ins T.a_Reader dx (rdF (.ref tl) (.ref sl) (.ref kl))) := m.kk.keep _ _ (fun z => z.elim npkd fun z => z.elim n4 r5) (k5.at hp4)
          have ht6 : H6 tl = some (.lst tws) := m.kk.keep _ _ (fun z => z.elim m1 fun z => z.elim t4 r1) (k5.at ht4)
          have hs6 : H6 sl = some (.lst sws) := m.kk.keep _ _ (fun z => z.elim m2 fun z => z.elim t5 r2) (k5.at hs4)
          have ls := plen ps4
          rw [List.length_map, List.length_take] at ls
          refine ⟨_, rfl, p, _, dx, _, _, rfl, hp6, rc.c, rc.n1, rdF_t _ _ _, .inl ⟨rfl, _, SqL.of ht6⟩, _, rfl, tl, tws, _, rfl, rfl, ht6, by rw [sizeLine_eq]; omega, ?_⟩
          have npt : p ≠ tl := n1
          have k7 : Ks (fun a => a = p) H (upd H6 tl (.lst (tws ++ [.ref rd]))) := kp6.mutNew htl0
          have tx7 : Tx H6 (upd H6 tl (.lst (tws ++ [.ref rd]))) := snoc_tx .refl ht6
          have t47 : Tx H4 (upd H6 tl (.lst (tws ++ [.ref rd]))) := k5.tx.trans (m.kk.tx.trans tx7)
          have hp7 : (upd H6 tl (.lst (tws ++ [.ref rd]))) p = some (.ins T.a_Reader dx (rdF (.ref tl) (.ref sl) (.ref kl))) := by rw [upd_ne n1]; exact hp6
          have hs7 : (upd H6 tl (.lst (tws ++ [.ref rd]))) sl = some (.lst sws) := by rw [upd_ne t1.symm]; exact hs6
          refine ⟨_, rfl, p, _, dx, _, _, rfl, hp7, rc.c, rc.n2, rdF_s _ _ _, .inl ⟨rfl, _, SqL.of hs7⟩, _, rfl, _, rfl, C1, po, o, sv, s, rfl, oc, ofp k7, wf, TI.stb _ _ _ _ t47 rsv, sok.2.2, ?_⟩
          intro lv H8 k8 tlv
          have hs8 := k8.at hs7
          refine ⟨sl, sws, _, rfl, rfl, hs8, by rw [sizeLine_eq]; omega, ?_⟩
          have tx9 : Tx H8 (upd H8 sl (.lst (sws ++ [lv]))) := snoc_tx .refl hs8
          have t49 : Tx H4 (upd H8 sl (.lst (sws ++ [lv]))) := t47.trans (k8.tx.trans tx9)
          have ht9 : (upd H8 sl (.lst (sws ++ [lv]))) tl = some (.lst (tws ++ [.ref rd])) := by rw [upd_ne t1]; exact k8.at upd_same
          obtain ⟨r0, er0⟩ := m.pre
          have ks'0 : ks'[t]? = some s := by rw [er0, List.getElem?_append_left hlt]; exact hs
          have tk : ks'.take t = ks.take t := by rw [er0, List.take_append_of_le_length tle]
          have tk1 : ks'.take (t + 1) = ks.take t ++ [s] := by rw [List.take_succ, tk, ks'0]; rfl
          have X1 : Ks (fun a => a = tl ∨ a = sl ∨ a = kl ∨ a = kd) H4 H6 := k5.comp m.kk (fun _ z => z.elim) (by
            rintro a (rfl | rfl | rfl)
            · exact .inl (.inr (.inr (.inr rfl)))
            · exact .inl (.inr (.inr (.inl rfl)))
            · exact .inr hrd)
          have X2 : Ks (fun a => a = tl ∨ a = sl ∨ a = kl ∨ a = kd) H6 (upd H8 sl (.lst (sws ++ [lv]))) := (((Ks.refl (S := fun a => a = tl ∨ a = sl ∨ a = kl ∨ a = kd)).mut (.inl rfl) (fun ys z => by rw [ht6] at z; cases z)).trans k8.ks).mut (.inr (.inl rfl)) (fun ys z => by rw [hs8] at z; cases z)
          have klast : Ks (fun a => a = p) H (upd H8 sl (.lst (sws ++ [lv]))) := (k7.trans k8.ks).mutNew hsl0
          have get9 : ∀ a o', a ≠ tl → a ≠ sl → H6 a = some o' → (upd H8 sl (.lst (sws ++ [lv]))) a = some o' := fun a o' z1 z2 h => by
            rw [upd_ne z2]; exact k8.at (by rw [upd_ne z1]; exact h)
          refine ⟨⟨ks', t + 1, tws ++ [.ref rd], sws ++ [lv], ws, m.ki, by rw [er0, List.length_append]; omega, ?_, ⟨_, _, _, _, rfl⟩, klast, get9 _ _ n1 n2 hp6, ⟨?_, tx4.trans t49⟩, ?_, ⟨ht9, ?_⟩, ⟨upd_same, ?_⟩, get9 _ _ t4.symm t5.symm m.kp, pimp (fun v x r => TI.stb _ _ v x (tx7.trans (k8.tx.trans tx9)) r) m.kw⟩, ?_⟩
          · intro i x hi hx st hst hne
            rcases Nat.lt_or_ge i t with z | z
            · have hx' : ks[i]? = some x := by rw [er0, List.getElem?_append_left (by omega)] at hx; exact hx
              rw [er0]
              exact List.mem_append_left _ (cls i x z hx' st hst hne)
            · have ei : i = t := by omega
              subst ei
              rw [ks'0] at hx; cases hx
              exact m.cl st hst hne
          · exact get9 _ _ nst.1 nst.2.1 (m.kk.keep _ _ (fun z => z.elim nst.2.2.2.1 fun z => z.elim nst.2.2.1 r6) (k5.at hst4))
          · obtain ⟨kv, z1, z2, z3⟩ := m.num
            exact ⟨kv, get9 _ _ m1.symm m2.symm z1, z2, z3⟩
          · rw [tk1]
            refine papp (pimp' (fun v x hx r => ?_) pt4) (.cons ⟨rd, kvs, rk, rfl, Hd.get (fun z => z.elim (fun z => r1 z.symm) fun z => z.elim (fun z => r2 z.symm) fun z => z.elim (fun z => r3 z.symm) fun z => r4 z.symm) (get9 _ _ r1.symm r2.symm m.row), m.rke, m.rnd, m.rm, m.rv⟩ .nil)
            rw [er0]
            obtain ⟨i, hi⟩ := List.mem_iff_getElem?.mp hx
            have hit : i < t := by have := (List.getElem?_eq_some_iff.mp hi).1; rw [List.length_take] at this; omega
            have hi' : ks[i]? = some x := by rw [List.getElem?_take, if_pos hit] at hi; exact hi
            exact (RowAt.sto _ _ _ _ (Hd.ke (X1.trans X2)) r).grow fun st hst hne => cls i x hit hi' st hst hne
          · rw [tk1, List.map_append]
            exact papp (pimp (fun v x r => TI.stb _ _ v x t49 r) ps4) (.cons (TI.stb _ _ _ _ tx9 tlv) .nil)
          · show (match (upd H8 sl (.lst (sws ++ [lv]))) tl with | some (.lst ws) => 70 - ws.length | _ => 0) < (match H4 tl with | some (.lst ws) => 70 - ws.length | _ => 0)
            rw [ht9, ht4]
            show 70 - (tws ++ [_]).length < 70 - tws.length
            simp only [List.length_append, List.length_singleton]; omega
      · have et : t = ks.length := by
          have : ¬ ((tws.length : Nat) : Int) < (kws.length : Nat) := fun z => c (decide_eq_true z)
          omega
        subst et
        rw [List.take_length] at pt4 ps4
        refine k ks H4 ki cls k4 ⟨dx, tl, sl, kl, tws, sws, kws, hp4, ⟨ht4, pimp (fun v x r => RowAt.sto _ _ v x (Le.ke Hd.le) r) pt4⟩, ⟨hs4, ps4⟩, hk4, pk4⟩
    · intro σ H' Q Q' hq h
      obtain ⟨v, e1, a1, C1, dx1, fs1, v1, q1, q2, q3, q4, q5, x, n, e2, l1, v', e3, a2, C2, dx2, fs2, v2, r1, r2, r3, r4, r5, x', n', e4, l2, i, j, e5, e6, b, e7, q⟩ := h
      exact ⟨v, e1, a1, C1, dx1, fs1, v1, q1, q2, q3, q4, q5, x, n, e2, l1, v', e3, a2, C2, dx2, fs2, v2, r1, r2, r3, r4, r5, x', n', e4, l2, i, j, e5, e6, b, e7, hq _ _ q⟩
end
end Fd
set_option Elab.async false
set_option linter.all false
set_option maxRecDepth 100000
set_option maxHeartbeats 4000000
namespace Fd
open PySem PySem.Spec PyProof.Rows L2 RZ
/-- a number of a reader's set, or DEAD -/
def NumOk (ks : List (List Int)) (i : Int) : Prop := i = -1 ∨ 0 ≤ i ∧ i < ks.length
/-- a step leads on from the set of number i -/
def Mv (o : Ofc) (ks : List (List Int)) (i : Int) (st : List Int) : Prop := 0 ≤ i ∧ ∃ s, ks[i.toNat]? = some s ∧ st ∈ stepsOf o ∧ goalsM o s st ≠ []
open Classical in
noncomputable def behindM (o : Ofc) (ks : List (List Int)) (i : Int) (st : List Int) : Int := if Mv o ks i st then (ks.idxOf (goalsM o (ks.getD i.toNat []) st) : Nat) else -1
def closesM (o : Ofc) (ks : List (List Int)) (i last : Int) : Bool := decide (i ≠ -1) && decide (last ∈ lastsM o (ks.getD i.toNat []))
def sp_behind (C : Addr) : Sp := fun xs H Q _ => ∃ p o ks i v st, xs = [.ref p, .int i, v] ∧ ReaderAt C H p o ks ∧ NumOk ks i ∧ TI H v st ∧ Q (.int (behindM o ks i st)) H
def sp_closes (C : Addr) : Sp := fun xs H Q _ => ∃ p o ks i last, xs = [.ref p, .int i, .int last] ∧ ReaderAt C H p o ks ∧ NumOk ks i ∧ Q (.bl (closesM o ks i last)) H
theorem inV_int {x : Int} : ∀ ns : List Int, inV (.int x) (ns.map V.int) = decide (x ∈ ns)
  | [] => by simp [inV]
  | n :: ns => by
    have ih := inV_int (x := x) ns
    unfold inV at ih ⊢
    rw [List.map_cons, List.any_cons, ih]
    show ((n == x) || _) = _
    by_cases c : n = x
    · simp [c]
    · have c' : ¬ x = n := fun z => c z.symm
      simp [c, c']
theorem flat_int (ns : List Int) : (ns.map V.int).all flatV = true := by
  rw [List.all_map]; exact List.all_eq_true.mpr fun _ _ => rfl
/-- two readers, for a pair of numbers -/
structure TwoRd (C : Addr) (H : Hp) (rt p1 p2 : Addr) (o1 o2 : Ofc) (ks1 ks2 : List (List Int)) : Prop where
  t : H rt = some (.tup [.ref p1, .ref p2])
  a : ReaderAt C H p1 o1 ks1
  b : ReaderAt C H p2 o2 ks2
theorem TwoRd.ke {C : Addr} {H H' : Hp} {rt p1 p2 : Addr} {o1 o2 : Ofc} {ks1 ks2 : List (List Int)} (x : TwoRd C H rt p1 p2 o1 o2 ks1 ks2) (k : Ke H H') : TwoRd C H' rt p1 p2 o1 o2 ks1 ks2 := ⟨k.at x.t, x.a.ke k, x.b.ke k⟩
def sp_steps_from (C CR : Addr) : Sp := fun xs H Q _ => ∃ p dx fs rt p1 p2 o1 o2 ks1 ks2 u i j, xs = [.ref p, u] ∧ H p = some (.ins C dx fs) ∧ fs.lookup ("readers" : Str) = some (.ref rt) ∧ TwoRd CR H rt p1 p2 o1 o2 ks1 ks2 ∧ Wf o1 ∧ Wf o2 ∧ NumOk ks1 i ∧ NumOk ks2 j ∧ TI H u [i, j] ∧
  ∀ l ws sts H', H l = none → Ke H H' → H' l = some (.lst ws) → Paired (TI H') ws sts → (∀ st, st ∈ sts ↔ Mv o1 ks1 i st ∨ Mv o2 ks2 j st) → sts.Pairwise (· < ·) → Q (.ref l) H'
/-- a locked dict is given back -/
theorem lock_ke {H H' : Hp} {d : Addr} {u : HO} (h : H d = some u) (nt : ∀ xs, u ≠ .tup xs) (k : Ks (fun a => a = d) H H') : Ke H (upd H' d u) := by
  refine Ke.of fun a o e => ?_
  by_cases c : a = d
  · subst c; rw [upd_same, ← h, e]
  · rw [upd_ne c]; exact k.keep a o c e
theorem lock_ks {H : Hp} {d : Addr} {u : HO} {od : Obj} (h : H d = some u) (nt : ∀ xs, u ≠ .tup xs) : Ks (fun a => a = d) H (upd H d (.frz od u)) := Ks.mut .refl rfl fun xs e => by rw [h] at e; exact nt xs (Option.some.inj e)
/-- a dict as a set of steps -/
def DST (H : Hp) (f : Addr) (p : List Int → Prop) : Prop := ∃ (kvs : List (List Key × V)) (ks : List (List Int)), H f = some (.dT kvs) ∧ kvs.map (·.1) = ks.map keyI ∧ ks.Nodup ∧ ∀ x, x ∈ ks ↔ p x
theorem DST.put {H : Hp} {f : Addr} {p q : List Int → Prop} {kvs : List (List Key × V)} {ks : List (List Int)} {g : List Int} {v : V} (e : kvs.map (·.1) = ks.map keyI) (hn : ks.Nodup) (hm : ∀ x, x ∈ ks ↔ p x) (hq : ∀ x, q x ↔ p x ∨ x = g) : DST (upd H f (.dT (putK kvs (keyI g) v))) f q :=
  ⟨_, addk ks g, upd_same, keys_put keyI (fun _ _ z => keyI_inj z) e, addk_nodup hn, fun x => by rw [mem_addk, hm, hq]⟩
theorem steps_three {o : Ofc} {st : List Int} (h : st ∈ stepsOf o) : st.length = 3 := by
  obtain ⟨x, hx, h⟩ := List.mem_flatMap.mp h
  obtain ⟨k, _, rfl⟩ := List.mem_map.mp h
  obtain ⟨s, _, hx⟩ := List.mem_flatMap.mp hx
  obtain ⟨n, _, rfl⟩ := List.mem_map.mp hx
  rfl
structure EC (K : PySem.W.Frag) (C : Addr) : Prop where
  c : Cls K C
  n1 : NoAttr K C "readers"
  n2 : NoAttr K C "marks"
  n3 : NoAttr K C "met"
  n4 : NoAttr K C "layer"
def edF (vr vm vt vl : V) : List (Str × V) := putF "layer" vl (putF "met" vt (putF "marks" vm (putF "readers" vr [])))
section
variable (vr vm vt vl : V)
theorem edF_r : (edF vr vm vt vl).lookup ("readers" : Str) = some vr := by
  unfold edF
  rw [lookup_putF, if_neg (by decide +kernel), lookup_putF, if_neg (by decide +kernel), lookup_putF, if_neg (by decide +kernel), lookup_putF, if_pos rfl]
theorem edF_m : (edF vr vm vt vl).lookup ("marks" : Str) = some vm := by
  unfold edF
  rw [lookup_putF, if_neg (by decide +kernel), lookup_putF, if_neg (by decide +kernel), lookup_putF, if_pos rfl]
theorem edF_t : (edF vr vm vt vl).lookup ("met" : Str) = some vt := by
  unfold edF
  rw [lookup_putF, if_neg (by decide +kernel), lookup_putF, if_pos rfl]
theorem edF_l : (edF vr vm vt vl).lookup ("layer" : Str) = some vl := by
  unfold edF
  rw [lookup_putF, if_pos rfl]
theorem edF_no {m : Str} (h1 : ¬ m = "readers") (h2 : ¬ m = "marks") (h3 : ¬ m = "met") (h4 : ¬ m = "layer") : (edF vr vm vt vl).lookup m = none := by
  unfold edF
  rw [lookup_putF, if_neg h4, lookup_putF, if_neg h3, lookup_putF, if_neg h2, lookup_putF, if_neg h1]
  rfl
def l4 (a b c d : V) : List (Str × V) := [((Str.ofString "readers" : Str), a), ((Str.ofString "marks" : Str), b), ((Str.ofString "met" : Str), c), ((Str.ofString "layer" : Str), d)]
theorem edF_l4 (z : V) : edF vr vm vt z = l4 vr vm vt z := by
  unfold edF l4
  rw [show putF "readers" vr [] = ([((Str.ofString "readers" : Str), vr)] : List (Str × V)) from rfl]
  rw [show putF "marks" vm ([((Str.ofString "readers" : Str), vr)] : List (Str × V)) = [((Str.ofString "readers" : Str), vr), ((Str.ofString "marks" : Str), vm)] from by
    show (if (Str.ofString "readers" : Str) = Str.ofString "marks" then _ else _) = _
    rw [if_neg (by decide +kernel)]; rfl]
  rw [show putF "met" vt ([((Str.ofString "readers" : Str), vr), ((Str.ofString "marks" : Str), vm)] : List (Str × V)) = [((Str.ofString "readers" : Str), vr), ((Str.ofString "marks" : Str), vm), ((Str.ofString "met" : Str), vt)] from by
    show (if (Str.ofString "readers" : Str) = Str.ofString "met" then _ else _ :: (if (Str.ofString "marks" : Str) = Str.ofString "met" then _ else _)) = _
    rw [if_neg (by decide +kernel), if_neg (by decide +kernel)]; rfl]
  show (if (Str.ofString "readers" : Str) = Str.ofString "layer" then _ else _ :: (if (Str.ofString "marks" : Str) = Str.ofString "layer" then _ else _ :: (if (Str.ofString "met" : Str) = Str.ofString "layer" then _ else _))) = _
  rw [if_neg (by decide +kernel), if_neg (by decide +kernel), if_neg (by decide +kernel)]; rfl
theorem edF_put (v : V) : putF "layer" v (edF vr vm vt vl) = edF vr vm vt v := by
  rw [edF_l4, edF_l4]
  unfold l4
  show (if (Str.ofString "readers" : Str) = Str.ofString "layer" then _ else _ :: (if (Str.ofString "marks" : Str) = Str.ofString "layer" then _ else _ :: (if (Str.ofString "met" : Str) = Str.ofString "layer" then _ else _ :: (if (Str.ofString "layer" : Str) = Str.ofString "layer" then _ else _)))) = _
  rw [if_neg (by decide +kernel), if_neg (by decide +kernel), if_neg (by decide +kernel), if_pos rfl]
end
/-- the layer: pairs and the steps that led to them -/
abbrev Lay := List (List Int × List (List Int))
abbrev SS : Rl (List (List Int)) := TT TI
theorem SS.stb : Stb SS := TT.stb TI.stb
def LayAt (H : Hp) (d : Addr) (lay : Lay) : Prop := ∃ kvs, H d = some (.dT kvs) ∧ Paired (fun (kv : List Key × V) (x : List Int × List (List Int)) => kv.1 = keyI x.1 ∧ SS H kv.2 x.2) kvs lay ∧ (lay.map (·.1)).Nodup
def MetAt (H : Hp) (d : Addr) (met : List (List Int)) : Prop := ∃ kvs, H d = some (.dT kvs) ∧ kvs.map (·.1) = met.map keyI ∧ met.Nodup
/-- two editions side by side at p, what was met at md, the layer at ld -/
structure EdAt (C CR : Addr) (H : Hp) (p md : Addr) (o1 o2 : Ofc) (ks1 ks2 : List (List Int)) (m : Int) (met : List (List Int)) (lay : Lay) : Prop where
  ex : ∃ dx rt p1 p2 ld, H p = some (.ins C dx (edF (.ref rt) (.int m) (.ref md) (.ref ld))) ∧ TwoRd CR (Hd (fun a => a = p ∨ a = md ∨ a = ld) H) rt p1 p2 o1 o2 ks1 ks2 ∧ MetAt H md met ∧ LayAt H ld lay ∧ md ≠ ld
theorem ReaderAt.off {C C' : Addr} {H : Hp} {pr p dx : Addr} {o : Ofc} {ks : List (List Int)} (x : ReaderAt C H pr o ks) (hp : H p = some (.ins C' dx [])) : ReaderAt C (Hd (fun a => a = p) H) pr o ks := by
  obtain ⟨dx', tl, sl, kl, tws, sws, kws, h1, ⟨h2, h3⟩, ⟨h4, h5⟩, h6, h7⟩ := x.ex
  have tx : Tx H (Hd (fun a => a = p) H) := ⟨fun a xs h => Hd.get (fun e => by rw [e, hp] at h; cases h) h⟩
  refine ⟨dx', tl, sl, kl, tws, sws, kws, Hd.get (fun e => ?_) h1, ⟨Hd.get (fun e => by rw [e, hp] at h2; cases h2) h2, pimp (fun v s ⟨d, kvs, rk, e, hd, g⟩ => ⟨d, kvs, rk, e, Hd.get (fun e => by rw [e, hp] at hd; cases hd) hd, g⟩) h3⟩, ⟨Hd.get (fun e => by rw [e, hp] at h4; cases h4) h4, pimp (fun v x r => TI.stb _ _ v x tx r) h5⟩, Hd.get (fun e => by rw [e, hp] at h6; cases h6) h6, pimp (fun v x r => TI.stb _ _ v x tx r) h7⟩
  rw [e, hp] at h1
  have e2 := congrArg (fun o => match o with | some (HO.ins _ _ fs) => fs.lookup ("table" : Str) | _ => none) h1
  have e3 : (none : Option V) = (rdF (.ref tl) (.ref sl) (.ref kl)).lookup ("table" : Str) := e2
  rw [rdF_t] at e3
  cases e3
def sp_ed (K : PySem.W.Frag) (C CR CT : Addr) : Sp := fun xs H Q E => ∃ p dx po1 po2 o1 o2 C1 C2, xs = [.ref p, .ref po1, .ref po2] ∧ H p = some (.ins C dx []) ∧ (OC K C1 ∧ OfAt C1 H po1 o1 ∧ Wf o1) ∧ (OC K C2 ∧ OfAt C2 H po2 o2 ∧ Wf o2) ∧
  (Over o1 ∨ Over o2 → ∀ d H', Ks (fun a => a = p) H H' → H' d = some (.xd [("most", .int 60)]) → E (.ref CT) (some d) H') ∧
  ∀ md ks1 ks2 H', H md = none → KsI o1 ks1 → Closed o1 ks1 ks1.length → KsI o2 ks2 → Closed o2 ks2 ks2.length → Ks (fun a => a = p) H H' → EdAt C CR H' p md o1 o2 ks1 ks2 (o1.sz.getD 2 0) [[0, 0]] [([0, 0], [])] → Q .non H'
section
variable {P : Program} {w : World} {K : PySem.W.Frag} {mg : Str → Option Value} {base : Heap} (T : Txt K mg)
include T
theorem ok_Reader_behind : FnOk P w K mg base CX0 1 T.a_Reader_behind T.d_Reader_behind P_Reader_behind (sp_behind T.a_Reader) := by
  refine T.F_Reader_behind.ok sc_Reader_behind (fun vs H Q E h => ?_) (fun cdv A outer s H vs Q E hr h => ?_)
  · obtain ⟨p, o, ks, i, v, st, rfl, _⟩ := h; rfl
  · obtain ⟨p, o, ks, i, v, st, rfl, ra, ni, ⟨a, rfl, ha⟩, k⟩ := h
    have hu := hu_of hr
    have rc := T.rc
    obtain ⟨dx, tl, sl, kl, tws, sws, kws, hp, ⟨ht, pt⟩, ⟨hs, ps⟩, hk, pk⟩ := ra.ex
    refine ⟨_, (pss_cons (ps_if (pt_cmpR op_eq (pv 1) (pe_glob (v := .int (-1)) rfl T.g_DEAD ⟨_, rfl⟩) (nomark _)) (pss_one (ps_ret (pe_glob (v := .int (-1)) rfl T.g_DEAD ⟨_, rfl⟩))) pss_nil)
  (pss_one (ps_ret (pe_dget2 hu (pe_ix ix_list (pe_fld (pv 0) rfl) (pv 1) (fun _ _ => rfl)) (pv 2) (pe_glob (v := .int (-1)) rfl T.g_DEAD ⟨_, rfl⟩) ⟨rfl, rfl, rfl, rfl⟩)))), ?_⟩
    refine ⟨_, rfl, rfl, _, rfl, ?_⟩
    by_cases c : i = -1
    · refine ifT (by rw [c]) ?_
      have : behindM o ks i st = -1 := by unfold behindM; rw [if_neg (fun z => by have := z.1; omega)]
      rw [this] at k
      exact k
    · refine ifF (fun z => c (by injection z)) ?_
      have hi : 0 ≤ i ∧ i < ks.length := ni.elim (fun z => absurd z c) id
      obtain ⟨s', hs'⟩ : ∃ s, ks[i.toNat]? = some s := ⟨_, List.getElem?_eq_getElem (by omega)⟩
      obtain ⟨rv, hrv, d, kvs, rk, rfl, hd, h1, h2, h3, h4⟩ := pget pt hs'
      refine ⟨_, rfl, p, _, dx, _, _, rfl, hp, rc.c, rc.n1, rdF_t _ _ _, _, rfl, tl, tws, i, _, rfl, rfl, SqL.of ht, atI_nat hrv (by omega), d, rfl, .inr ⟨_, .inl hd⟩, _, rfl, _, DGet.t (k := keyI st) hd (by rw [keyI_kV]; exact ha), ?_⟩
      have eg : ks.getD i.toNat [] = s' := by rw [List.getD_eq_getElem?_getD, hs']; rfl
      rw [h4]
      by_cases cr : st ∈ rk
      · have : Mv o ks i st := ⟨hi.1, s', hs', ((h3 st).mp cr).1, ((h3 st).mp cr).2⟩
        have e : behindM o ks i st = (ks.idxOf (goalsM o s' st) : Nat) := by unfold behindM; rw [if_pos this, eg]
        rw [if_pos cr]; rw [e] at k; exact k
      · have : ¬ Mv o ks i st := fun ⟨_, s2, hs2, z1, z2⟩ => by
          rw [hs'] at hs2; cases hs2
          exact cr ((h3 st).mpr ⟨z1, z2⟩)
        have e : behindM o ks i st = -1 := by unfold behindM; rw [if_neg this]
        rw [if_neg cr]; rw [e] at k; exact k
theorem ok_Reader_closes : FnOk P w K mg base CX0 1 T.a_Reader_closes T.d_Reader_closes P_Reader_closes (sp_closes T.a_Reader) := by
  refine T.F_Reader_closes.ok sc_Reader_closes (fun vs H Q E h => ?_) (fun cdv A outer s H vs Q E hr h => ?_)
  · obtain ⟨p, o, ks, i, last, rfl, _⟩ := h; rfl
  · obtain ⟨p, o, ks, i, last, rfl, ra, ni, k⟩ := h
    have rc := T.rc
    obtain ⟨dx, tl, sl, kl, tws, sws, kws, hp, ⟨ht, pt⟩, ⟨hs, ps⟩, hk, pk⟩ := ra.ex
    refine ⟨_, (pss_one (ps_ret (pe_and (pe_cmpR op_ne (pv 1) (pe_glob (v := .int (-1)) rfl T.g_DEAD ⟨_, rfl⟩) (nomark _)) (pe_one (pe_cmpR op_in_seq (pv 2) (pe_ix ix_list (pe_fld (pv 0) rfl) (pv 1) (fun _ _ => rfl)) rfl))))), ?_⟩
    refine ⟨_, rfl, rfl, _, rfl, ?_⟩
    by_cases c : i = -1
    · refine ifNT (by rw [c]) ?_
      have : closesM o ks i last = false := by unfold closesM; simp [c]
      rw [this] at k
      exact k
    · refine ifNF (fun z => c (by injection z)) ?_
      have hi : 0 ≤ i ∧ i < ks.length := ni.elim (fun z => absurd z c) id
      obtain ⟨s', hs'⟩ : ∃ s, ks[i.toNat]? = some s := ⟨_, List.getElem?_eq_getElem (by omega)⟩
      obtain ⟨rv, hrv, a, rfl, ha⟩ := pget ps (i := i.toNat) (y := lastsM o s') (by rw [List.getElem?_map, hs']; rfl)
      have eg : ks.getD i.toNat [] = s' := by rw [List.getD_eq_getElem?_getD, hs']; rfl
      refine ⟨_, rfl, _, rfl, p, _, dx, _, _, rfl, hp, rc.c, rc.n2, rdF_s _ _ _, _, rfl, sl, sws, i, _, rfl, rfl, SqL.of hs, atI_nat hrv (by omega), a, _, rfl, .inr (SqT.of ha), rfl, flat_int _, ?_⟩
      have e : closesM o ks i last = inV (.int last) ((lastsM o s').map V.int) := by
        unfold closesM
        rw [eg, inV_int]
        simp [c]
      rw [e] at k
      exact k
theorem Txt.ec : EC K T.a_Editions := ⟨T.c_Editions, T.f_Editions_readers, T.f_Editions_marks, T.f_Editions_met, T.f_Editions_layer⟩
theorem ok_Editions_steps_from : FnOk P w K mg base CX0 1 T.a_Editions_steps_from T.d_Editions_steps_from P_Editions_steps_from (sp_steps_from T.a_Editions T.a_Reader) := by
  refine T.F_Editions_steps_from.ok sc_Editions_steps_from (fun vs H Q E h => ?_) (fun cdv A outer s H vs Q E hr h => ?_)
  · obtain ⟨p, dx, fs, rt, p1, p2, o1, o2, ks1, ks2, u, i, j, rfl, _⟩ := h; rfl
  · obtain ⟨p, dx, fs, rt, p1, p2, o1, o2, ks1, ks2, u, i, j, rfl, hp, hfs, rd, wf1, wf2, ni, nj, ⟨ua, rfl, hua⟩, k⟩ := h
    have hu := hu_of hr
    have ec := T.ec
    have rc := T.rc
    refine ⟨_, (pss_cons (ps_set (i := 2) sc_Editions_steps_from.nd rfl (Or.inl rfl) pe_dnewT)
  (pss_cons (ps_for PassesOwn.never rfl (pi_zipA rfl T.n_zip (pa_cons (pe_fld (pv 0) rfl) (pa_cons (pv 1) pa_nil))) (pg_tup rfl (pgs_cons (pg_name (i := 3) sc_Editions_steps_from.nd rfl (Or.inl rfl)) (pgs_cons (pg_name (i := 4) sc_Editions_steps_from.nd rfl (Or.inl rfl)) pgs_nil))) (pss_one (ps_if (pt_cmpR op_ne (pv 4) (pe_glob (v := .int (-1)) rfl T.g_DEAD ⟨_, rfl⟩) (nomark _)) (pss_one (ps_lock (ps_for PassesOwn.never rfl (pi_keys (pe_ix ix_list (pe_fld (pv 3) rfl) (pv 4) (fun _ _ => rfl))) (pg_name (i := 5) sc_Editions_steps_from.nd rfl (Or.inl rfl)) (pss_one (ps_dput hu (pv 2) (pv 5) pe_bl rfl))))) pss_nil)))
  (pss_one (ps_ret (pe_callB (cr_sortedDT rfl hr) (by rfl) T.n_sorted (by decide +kernel) (pa_cons (pv 2) pa_nil)))))), ?_⟩
    intro f hf
    have k0 : Ke H (upd H f (.dT [])) := Ke.new hf
    refine ⟨_, rfl, p, _, dx, fs, _, rfl, k0.at hp, ec.c, ec.n1, hfs, _, rfl, rt, ua, [.ref p1, .ref p2], [.int i, .int j], rfl, .inr ⟨SqT.of (k0.at rd.t), SqT.of (k0.at hua), ?_⟩⟩
    refine for_zipT (xs := [.ref p1, .ref p2]) (ys := [.int i, .int j]) rfl (fun n σ H' => (∃ s3 s4 s5, σ = [some (.ref p), some (.ref ua), some (.ref f), s3, s4, s5]) ∧ Ke H H' ∧ DST H' f fun x => (1 ≤ n ∧ Mv o1 ks1 i x) ∨ (2 ≤ n ∧ Mv o2 ks2 j x)) ⟨⟨_, _, _, rfl⟩, k0, [], [], upd_same, rfl, .nil, fun x => by simp⟩ (fun n σ H' q => ⟨SqT.of (q.2.1.at rd.t), SqT.of (q.2.1.at hua)⟩) ?_ ?_
    · rintro n x y t σ H1 hx hy ⟨⟨s3, s4, s5, rfl⟩, k1, kvs, ks, hf1, hk1, hn1, hm1⟩ ht
      obtain ⟨pr, o, kr, num, rfl, rfl, ra, nk, wf, hset⟩ : ∃ pr o kr num, x = .ref pr ∧ y = .int num ∧ ReaderAt T.a_Reader H pr o kr ∧ NumOk kr num ∧ Wf o ∧ ∀ st, ((1 ≤ n + 1 ∧ Mv o1 ks1 i st) ∨ (2 ≤ n + 1 ∧ Mv o2 ks2 j st)) ↔ ((1 ≤ n ∧ Mv o1 ks1 i st) ∨ (2 ≤ n ∧ Mv o2 ks2 j st)) ∨ Mv o kr num st := by
        match n, hx, hy with
        | 0, hx, hy =>
          cases hx; cases hy
          exact ⟨p1, o1, ks1, i, rfl, rfl, rd.a, ni, wf1, fun st => by simp⟩
        | 1, hx, hy =>
          cases hx; cases hy
          exact ⟨p2, o2, ks2, j, rfl, rfl, rd.b, nj, wf2, fun st => by simp⟩
        | n + 2, hx, _ => simp at hx
      have k2 : Ke H (upd H1 t (.tup [.ref pr, .int num])) := k1.trans (Ke.new ht)
      refine ⟨t, _, rfl, SqT.of upd_same, rfl, _, _, rfl, _, _, rfl, rfl, ?_⟩
      generalize hH2 : upd H1 t (.tup [.ref pr, .int num]) = H2 at k2 ⊢
      have hf2 : H2 f = some (.dT kvs) := by rw [← hH2]; exact (Ke.new ht).at hf1
      refine ⟨_, rfl, rfl, _, rfl, ?_⟩
      by_cases c : num = -1
      · refine ifNT (by rw [c]) ⟨⟨_, _, _, rfl⟩, k2, kvs, ks, hf2, hk1, hn1, fun x => ?_⟩
        rw [hm1]
        exact ⟨fun z => (hset x).mpr (.inl z), fun z => ((hset x).mp z).elim id fun z => by have := z.1; omega⟩
      · refine ifNF (fun z => c (by injection z)) ?_
        have hi : 0 ≤ num ∧ num < kr.length := nk.elim (fun z => absurd z c) id
        obtain ⟨dxr, tl, sl, kl, tws, sws, kws, hpr, ⟨htl, ptl⟩, _, _⟩ := (ra.ke k2).ex
        obtain ⟨s', hs'⟩ : ∃ s, kr[num.toNat]? = some s := ⟨_, List.getElem?_eq_getElem (by omega)⟩
        obtain ⟨rv, hrv, d, kr', rk, rfl, hd, e1, e2, e3, e4⟩ := pget ptl hs'
        have ndf : d ≠ f := by
          obtain ⟨dxr', tl', sl', kl', tws', sws', kws', hpr', ⟨htl', ptl'⟩, _, _⟩ := ra.ex
          have q1 := k2.at hpr'
          rw [hpr] at q1
          have q2 := congrArg (fun o => match o with | some (HO.ins _ _ fs) => fs.lookup ("table" : Str) | _ => none) q1
          have q3 : (rdF (.ref tl) (.ref sl) (.ref kl)).lookup ("table" : Str) = (rdF (.ref tl') (.ref sl') (.ref kl')).lookup ("table" : Str) := q2
          rw [rdF_t, rdF_t] at q3
          have q4 : tl = tl' := by injection q3 with q3; injection q3
          subst q4
          have q5 := k2.at htl'
          rw [htl] at q5
          have q6 : tws = tws' := by injection q5 with q5; injection q5
          subst q6
          obtain ⟨rv', hrv', d', kr2, rk', e5, hd', _⟩ := pget ptl' hs'
          rw [hrv] at hrv'
          have q7 : V.ref d = rv' := Option.some.inj hrv'
          rw [e5] at q7
          have q8 : d = d' := by injection q7
          subst q8
          exact ne_of_none hd' hf
        have hm : Mv o kr num = fun st => st ∈ rk := by
          funext st
          apply propext
          rw [e3]
          constructor
          · rintro ⟨_, s2, z0, z1, z2⟩
            rw [hs'] at z0; cases z0
            exact ⟨z1, z2⟩
          · rintro ⟨z1, z2⟩
            exact ⟨hi.1, s', hs', z1, z2⟩
        refine ⟨d, .dT kr', hd, True.intro, fun od => ?_⟩
        have npr : pr ≠ d := ne_of hpr hd (fun z => nomatch z)
        have ntl : tl ≠ d := ne_of htl hd (fun z => nomatch z)
        refine ⟨_, rfl, pr, _, dxr, _, _, rfl, by rw [upd_ne npr]; exact hpr, rc.c, rc.n1, rdF_t _ _ _, _, rfl, tl, tws, num, _, rfl, rfl, SqL.of (by rw [upd_ne ntl]; exact htl), atI_nat hrv (by omega), d, od, rfl, .inr ⟨kr', upd_same, ?_⟩⟩
        have lrk : rk.length ≤ 250047 := Nat.le_trans (len_sub e2 fun x hx => ((e3 x).mp hx).1) (steps_len wf)
        have lk' : kr'.length = rk.length := by have := congrArg List.length e1; simpa using this
        have hfr : (upd H2 d (.frz od (.dT kr'))) f = some (.dT kvs) := by rw [upd_ne ndf.symm]; exact hf2
        have kl0 : Ks (fun a => a = d) H2 (upd H2 d (.frz od (.dT kr'))) := lock_ks hd (fun _ z => nomatch z)
        have lks : ks.length ≤ 600000 := by
          have := len_sub (b := stepsOf o1 ++ stepsOf o2) hn1 fun x hx => by
            rcases (hm1 x).mp hx with ⟨_, z⟩ | ⟨_, z⟩
            · exact List.mem_append_left _ z.2.choose_spec.2.1
            · exact List.mem_append_right _ z.2.choose_spec.2.1
          have := steps_len wf1
          have := steps_len wf2
          rw [List.length_append] at *
          omega
        refine for_it (walk_keysT (d := d) (o := od) (kvs := kr')) (fun m σ H' => (∃ s5, σ = [some (.ref p), some (.ref ua), some (.ref f), some (.ref pr), some (.int num), s5]) ∧ H' d = some (.frz od (.dT kr')) ∧ Ks (fun a => a = d ∨ a = f) H2 H' ∧ ∃ kvs' ks', H' f = some (.dT kvs') ∧ kvs'.map (·.1) = ks'.map keyI ∧ ks'.Nodup ∧ (∀ x, x ∈ ks' ↔ x ∈ ks ∨ x ∈ rk.take m) ∧ ks'.length ≤ ks.length + m)
          ⟨⟨_, rfl⟩, upd_same, kl0.mono fun a z => .inl z, kvs, ks, hfr, hk1, hn1, (fun x => by simp), Nat.le_refl _⟩ (fun m σ H' _ q => q.2.1) ?_ ?_
        · rintro m x σ H3 H3' hlt ⟨⟨s5, rfl⟩, hd3, kk3, kvs', ks', hf3, hk3, hn3, hm3, l3⟩ ⟨rfl, key, v, q, hkv, rfl, hq⟩
          obtain ⟨st, hst, ekey⟩ : ∃ st, rk[m]? = some st ∧ key = keyI st := by
            have z1 : (kr'.map (·.1))[m]? = some key := by rw [List.getElem?_map, hkv]; rfl
            rw [e1, List.getElem?_map] at z1
            cases z2 : rk[m]? with
            | none => rw [z2] at z1; cases z1
            | some st => rw [z2] at z1; exact ⟨st, rfl, (Option.some.inj z1).symm⟩
          subst ekey
          have lk3 : kvs'.length = ks'.length := by have := congrArg List.length hk3; simpa using this
          refine ⟨_, rfl, _, rfl, f, _, rfl, DPut.t hf3 hq (by rw [sizeLine_eq]; omega), ⟨_, rfl⟩, by rw [upd_ne ndf]; exact hd3, kk3.mut (.inr rfl) (fun ys z => by rw [hf3] at z; cases z), _, addk ks' st, upd_same, keys_put keyI (fun _ _ z => keyI_inj z) hk3, addk_nodup hn3, fun x => ?_, ?_⟩
          · rw [mem_addk, hm3, List.take_succ, hst]
            simp [or_assoc]
          · unfold addk
            split
            · omega
            · rw [List.length_append, List.length_singleton]; omega
        · rintro σ H3 ⟨⟨s5, rfl⟩, hd3, kk3, kvs', ks', hf3, hk3, hn3, hm3, l3⟩
          refine ⟨hd3, ⟨_, _, _, rfl⟩, Ke.of fun a o' e => ?_, kvs', ks', by rw [upd_ne ndf.symm]; exact hf3, hk3, hn3, fun x => ?_⟩
          · by_cases ca : a = d
            · subst ca
              rw [upd_same]
              have := k2.at e
              rw [hd] at this; exact this
            · rw [upd_ne ca]
              exact kk3.keep a o' (fun z => z.elim ca fun z => by rw [z, hf] at e; cases e) (k2.at e)
          · have h4 := hset x
            rw [hm] at h4
            rw [hm3, hm1, lk', List.take_length]
            exact h4.symm
    · rintro σ H1 ⟨⟨s3, s4, s5, rfl⟩, k1, kvs, ks, hf1, hk1, hn1, hm1⟩
      have hm2 : ∀ x, x ∈ ks ↔ Mv o1 ks1 i x ∨ Mv o2 ks2 j x := fun x => by rw [hm1]; simp
      refine ⟨_, rfl, f, kvs, ks, rfl, .inl hf1, hk1, fun x hx z => ?_, fun l out hl po => ?_⟩
      · subst z
        rcases (hm2 _).mp hx with z | z
        · have := steps_three z.2.choose_spec.2.1; cases this
        · have := steps_three z.2.choose_spec.2.1; cases this
      · exact k l out (sortT ks) _ (k1.free hl) (k1.trans (Ke.new hl)) upd_same (pimp (fun v x r => TI.stb _ _ v x (Ke.new hl).tx r) po) (fun st => by rw [mem_sortT, hm2]) (strict_sortT hn1)
end
end Fd
set_option Elab.async false
set_option linter.all false
set_option maxRecDepth 100000
set_option maxHeartbeats 4000000
namespace Fd
open PySem PySem.Spec PyProof.Rows L2 RZ
section
variable {P : Program} {w : World} {K : PySem.W.Frag} {mg : Str → Option Value} {base : Heap} (T : Txt K mg) (Er : Err P K mg) (htop : (P.main.scope.names.lookup ("super" : Str)).isSome = false)
include T
include Er htop in
theorem ok_Editions_init : FnOk P w K mg base (L2.CX P w) 7 T.a_Editions_init T.d_Editions_init P_Editions_init (sp_ed K T.a_Editions T.a_Reader Er.a_TooMany) := by
  refine T.F_Editions_init.okX sc_Editions_init (fun vs H Q E h => ?_) (fun cdv A outer s H vs Q E hr h => ?_)
  · obtain ⟨p, dx, po1, po2, o1, o2, C1, C2, rfl, _⟩ := h; rfl
  · obtain ⟨p, dx, po1, po2, o1, o2, C1, C2, rfl, hp, ⟨oc1, of1, wf1⟩, ⟨oc2, of2, wf2⟩, kE, k⟩ := h
    have tk : Takes (cxOf (L2.CX P w) P w K mg base N_Editions_init "Editions.__init__" (defScope s_Editions_init) T.a_Editions_init cdv A outer s H E) (fun cls d _ H' => E cls d H') := takes_of rfl rfl rfl rfl
    have hu := hu_of hr
    have ec := T.ec
    obtain ⟨a, b, c, ez, _⟩ := wf1.sz
    refine ⟨_, (pss_cons (ps_fld (pv 0) (pe_tup (pa_cons (pe_make T.m_Reader (ok_Reader_init T Er htop) (hr.mono (by decide)) rfl T.g_Reader T.b_Reader_init .nil (passes_call tk fun _ _ _ _ h => h) (pa_cons (pv 1) pa_nil)) (pa_cons (pe_make T.m_Reader (ok_Reader_init T Er htop) (hr.mono (by decide)) rfl T.g_Reader T.b_Reader_init .nil (passes_call tk fun _ _ _ _ h => h) (pa_cons (pv 2) pa_nil)) pa_nil))) rfl)
  (pss_cons (ps_fld (pv 0) (pe_ix ix_tup (pe_fld (pv 1) rfl) pe_int (fun _ _ => rfl)) rfl)
  (pss_cons (ps_fld (pv 0) (pe_dispT hu (pe_tup (pa_cons pe_int (pa_cons pe_int pa_nil))) pe_bl) rfl)
  (pss_one (ps_fld (pv 0) (pe_dispT hu (pe_tup (pa_cons pe_int (pa_cons pe_int pa_nil))) (pe_tup pa_nil)) rfl))))), ?_⟩
    -- readers
    refine ⟨_, rfl, fun x1 dx1 hx1 hdx1 nx1 => ?_⟩
    have kA : Ke H (upd (upd H dx1 (.own x1)) x1 (.ins T.a_Reader dx1 [])) := (Ke.new hdx1).trans (Ke.new (by rw [upd_ne nx1.symm]; exact hx1))
    refine ⟨x1, dx1, po1, o1, C1, rfl, upd_same, oc1, of1.ke kA, wf1, (fun ov d H' kk hd => kE (.inl ov) d H' (Ke.then kA kk fun a z => by rw [z]; exact hx1).ks hd), fun ks1 H1 ki1 cl1 kk1 ra1 => ⟨rfl, ?_⟩⟩
    have k1 : Ke H H1 := Ke.then kA kk1 fun a z => by rw [z]; exact hx1
    refine ⟨_, rfl, fun x2 dx2 hx2 hdx2 nx2 => ?_⟩
    have kB : Ke H1 (upd (upd H1 dx2 (.own x2)) x2 (.ins T.a_Reader dx2 [])) := (Ke.new hdx2).trans (Ke.new (by rw [upd_ne nx2.symm]; exact hx2))
    refine ⟨x2, dx2, po2, o2, C2, rfl, upd_same, oc2, of2.ke (k1.trans kB), wf2, (fun ov d H' kk hd => kE (.inr ov) d H' (k1.trans (Ke.then kB kk fun a z => by rw [z]; exact hx2)).ks hd), fun ks2 H2 ki2 cl2 kk2 ra2 => ⟨rfl, (by show 2 ≤ sizeLine; decide), fun rt hrt => ?_⟩⟩
    have k12 : Ke H1 H2 := Ke.then kB kk2 fun a z => by rw [z]; exact hx2
    have k2 : Ke H H2 := k1.trans k12
    have ra1' := ra1.ke k12
    clear ra1 kk1 kk2 kA kB
    have k3 : Ke H (upd H2 rt (.tup [.ref x1, .ref x2])) := k2.trans (Ke.new hrt)
    have tw : TwoRd T.a_Reader (upd H2 rt (.tup [.ref x1, .ref x2])) rt x1 x2 o1 o2 ks1 ks2 := ⟨upd_same, ra1'.ke (Ke.new hrt), ra2.ke (Ke.new hrt)⟩
    generalize hH3 : upd H2 rt (.tup [.ref x1, .ref x2]) = H3 at k3 tw ⊢
    have hp3 := k3.at hp
    have twd : TwoRd T.a_Reader (Hd (fun a => a = p) H3) rt x1 x2 o1 o2 ks1 ks2 := ⟨Hd.get (fun e => by rw [← e] at hp3; rw [tw.t] at hp3; cases hp3) tw.t, tw.a.off hp3, tw.b.off hp3⟩
    refine ⟨_, rfl, p, _, dx, [], rfl, hp3, ec.c, ec.n1, by decide, ?_⟩
    have nt : ∀ {H' : Hp} {fs}, H' p = some (.ins T.a_Editions dx fs) → ∀ xs, H' p ≠ some (.tup xs) := fun h xs z => by rw [h] at z; cases z
    have s4 : Ks (fun a => a = p) H3 (upd H3 p (.ins T.a_Editions dx (putF "readers" (.ref rt) []))) := Ks.mut .refl rfl (nt hp3)
    have hp4 : (upd H3 p (.ins T.a_Editions dx (putF "readers" (.ref rt) []))) p = some (.ins T.a_Editions dx (putF "readers" (.ref rt) [])) := upd_same
    generalize hH4 : upd H3 p (.ins T.a_Editions dx (putF "readers" (.ref rt) [])) = H4 at s4 hp4 ⊢
    -- marks
    have of4 : OfAt C1 H4 po1 o1 := ((of1.off hp).ke (Hd.ke (k3.ks.trans s4))).ke (Le.ke Hd.le)
    obtain ⟨dxo, vso, vmo, vco, lo, dso, hpo, ⟨z, rfl, hz⟩, _⟩ := of4.ex
    rw [ez] at hz
    refine ⟨_, rfl, po1, C1, dxo, _, _, rfl, hpo, oc1.c, oc1.n1, offF_s _ _ _ _, z, _, 2, _, rfl, rfl, SqT.of hz, rfl, _, rfl, p, _, dx, _, rfl, hp4, ec.c, ec.n2, (by show 1 < 1000; decide), ?_⟩
    have s5 : Ks (fun a => a = p) H3 (upd H4 p (.ins T.a_Editions dx (putF "marks" (.int c) (putF "readers" (.ref rt) [])))) := s4.mut rfl (nt hp4)
    have hp5 : (upd H4 p (.ins T.a_Editions dx (putF "marks" (.int c) (putF "readers" (.ref rt) [])))) p = some (.ins T.a_Editions dx (putF "marks" (.int c) (putF "readers" (.ref rt) []))) := upd_same
    generalize hH5 : upd H4 p (.ins T.a_Editions dx (putF "marks" (.int c) (putF "readers" (.ref rt) []))) = H5 at s5 hp5 ⊢
    -- met
    intro md hmd
    refine ⟨(by show 2 ≤ sizeLine; decide), fun t ht => ?_⟩
    have ntm : t ≠ md := fun z => by rw [z, upd_same] at ht; cases ht
    refine ⟨by rw [upd_ne ntm.symm, upd_same], keyI [0, 0], t, rfl, by rw [upd_same]; rfl, ?_⟩
    have k6 : Ke H5 (upd (upd (upd H5 md (.dT [])) t (.tup [.int 0, .int 0])) md (.dT [(keyI [0, 0], .bl true)])) := ((Ke.new hmd).trans (Ke.new ht)).mutNew hmd
    have hm6 : (upd (upd (upd H5 md (.dT [])) t (.tup [.int 0, .int 0])) md (.dT [(keyI [0, 0], .bl true)])) md = some (.dT [(keyI [0, 0], .bl true)]) := upd_same
    generalize hH6 : upd (upd (upd H5 md (.dT [])) t (.tup [.int 0, .int 0])) md (.dT [(keyI [0, 0], .bl true)]) = H6 at k6 hm6 ⊢
    refine ⟨_, rfl, p, _, dx, _, rfl, k6.at hp5, ec.c, ec.n3, (by show 2 < 1000; decide), ?_⟩
    have npm : p ≠ md := ne_of_none hp5 hmd
    have s7 : Ks (fun a => a = p) H3 (upd H6 p (.ins T.a_Editions dx (putF "met" (.ref md) (putF "marks" (.int c) (putF "readers" (.ref rt) []))))) := (s5.trans k6.ks).mut rfl (nt (k6.at hp5))
    have hp7 : (upd H6 p (.ins T.a_Editions dx (putF "met" (.ref md) (putF "marks" (.int c) (putF "readers" (.ref rt) []))))) p = some (.ins T.a_Editions dx (putF "met" (.ref md) (putF "marks" (.int c) (putF "readers" (.ref rt) [])))) := upd_same
    have hm7 : (upd H6 p (.ins T.a_Editions dx (putF "met" (.ref md) (putF "marks" (.int c) (putF "readers" (.ref rt) []))))) md = some (.dT [(keyI [0, 0], .bl true)]) := by rw [upd_ne npm.symm]; exact hm6
    generalize hH7 : upd H6 p (.ins T.a_Editions dx (putF "met" (.ref md) (putF "marks" (.int c) (putF "readers" (.ref rt) [])))) = H7 at s7 hp7 hm7 ⊢
    -- layer
    intro ld hld
    refine ⟨(by show 2 ≤ sizeLine; decide), fun t' ht' => ⟨(by show 0 ≤ sizeLine; decide), fun u hu' => ?_⟩⟩
    have ntl : t' ≠ ld := fun z => by rw [z, upd_same] at ht'; cases ht'
    have nul : u ≠ ld := fun z => by rw [z, upd_ne ntl.symm, upd_same] at hu'; cases hu'
    have nut : u ≠ t' := fun z => by rw [z, upd_same] at hu'; cases hu'
    refine ⟨by rw [upd_ne nul.symm, upd_ne ntl.symm, upd_same], keyI [0, 0], t', rfl, by rw [upd_ne nut.symm, upd_same]; rfl, ?_⟩
    have k8 : Ke H7 (upd (upd (upd (upd H7 ld (.dT [])) t' (.tup [.int 0, .int 0])) u (.tup [])) ld (.dT [(keyI [0, 0], .ref u)])) := (((Ke.new hld).trans (Ke.new ht')).trans (Ke.new hu')).mutNew hld
    have hl8 : (upd (upd (upd (upd H7 ld (.dT [])) t' (.tup [.int 0, .int 0])) u (.tup [])) ld (.dT [(keyI [0, 0], .ref u)])) ld = some (.dT [(keyI [0, 0], .ref u)]) := upd_same
    have hu8 : (upd (upd (upd (upd H7 ld (.dT [])) t' (.tup [.int 0, .int 0])) u (.tup [])) ld (.dT [(keyI [0, 0], .ref u)])) u = some (.tup []) := by rw [upd_ne nul, upd_same]
    generalize hH8 : upd (upd (upd (upd H7 ld (.dT [])) t' (.tup [.int 0, .int 0])) u (.tup [])) ld (.dT [(keyI [0, 0], .ref u)]) = H8 at k8 hl8 hu8 ⊢
    refine ⟨_, rfl, p, _, dx, _, rfl, k8.at hp7, ec.c, ec.n4, (by show 3 < 1000; decide), ?_⟩
    have npl : p ≠ ld := ne_of_none hp7 hld
    have nml : md ≠ ld := ne_of_none hm7 hld
    have nup : u ≠ p := ne_of hu8 (k8.at hp7) (fun z => nomatch z)
    have s9 : Ks (fun a => a = p) H3 (upd H8 p (.ins T.a_Editions dx (edF (.ref rt) (.int c) (.ref md) (.ref ld)))) := (s7.trans k8.ks).mut rfl (nt (k8.at hp7))
    have hmd3 : H3 md = none := s5.free hmd
    have hld3 : H3 ld = none := s7.free hld
    have ezc : o1.sz.getD 2 0 = c := by rw [ez]; rfl
    rw [ezc] at k
    refine k md ks1 ks2 _ (k3.free hmd3) ki1 cl1 ki2 cl2 (k3.ks.trans s9) ⟨dx, rt, x1, x2, ld, upd_same, ?_, ⟨_, by rw [upd_ne npm.symm]; exact k8.at hm7, rfl, by simp⟩, ⟨_, by rw [upd_ne npl.symm]; exact hl8, .cons ⟨rfl, u, [], rfl, by rw [upd_ne nup]; exact hu8, .nil⟩ .nil, by simp⟩, nml⟩
    refine twd.ke (Ke.of fun a o e => ?_)
    obtain ⟨q1, q2⟩ := Hd.at e
    exact Hd.get (fun z => z.elim q1 fun z => z.elim (fun z => by rw [z, hmd3] at q2; cases q2) fun z => by rw [z, hld3] at q2; cases q2) (s9.keep a o q1 q2)
end
end Fd
set_option Elab.async false
set_option linter.all false
set_option maxRecDepth 100000
set_option maxHeartbeats 4000000
namespace Fd
open PySem PySem.Spec PyProof.Rows L2 RZ
theorem walk_itemsT {d : Addr} {o : Obj} {kvs : List (List Key × V)} : Walk (ItiT d o kvs) kvs.length (fun H => H d = some (.frz o (.dT kvs))) (fun i H x H' => ∃ (t : Addr) (k : List Key) (v : V) (q : Addr), kvs[i]? = some (k, v) ∧ H q = some (.tup (k.map kV)) ∧ x = .ref t ∧ H t = none ∧ H' = upd H t (.tup [.ref q, v])) :=
  ⟨fun _ _ hi q => ⟨q, hi⟩, fun _ q => ⟨q, Nat.le_refl _⟩, fun _ _ _ _ _ _ y => y⟩
def PairN (ks1 ks2 : List (List Int)) (g : List Int) : Prop := ∃ i j, g = [i, j] ∧ NumOk ks1 i ∧ NumOk ks2 j
theorem pairN_len {ks1 ks2 : List (List Int)} {gs : List (List Int)} (nd : gs.Nodup) (h : ∀ g ∈ gs, PairN ks1 ks2 g) : gs.length ≤ (ks1.length + 1) * (ks2.length + 1) := by
  have h1 := len_sub (b := (ran (ks1.length + 1 : Nat)).flatMap fun a => (ran (ks2.length + 1 : Nat)).map fun b => [a - 1, b - 1]) nd fun g hg => by
    obtain ⟨i, j, rfl, hi, hj⟩ := h g hg
    have hi' : 0 ≤ i + 1 ∧ i + 1 < (ks1.length + 1 : Nat) := by rcases hi with z | z <;> omega
    have hj' : 0 ≤ j + 1 ∧ j + 1 < (ks2.length + 1 : Nat) := by rcases hj with z | z <;> omega
    refine List.mem_flatMap.mpr ⟨i + 1, mem_ran.mpr hi', List.mem_map.mpr ⟨j + 1, mem_ran.mpr hj', ?_⟩⟩
    simp
  refine Nat.le_trans h1 ?_
  have lr : ∀ n : Nat, (ran n).length = n := fun n => by unfold ran; simp
  have h2 := flat_len (f := fun a => (ran (ks2.length + 1 : Nat)).map fun b => [a - 1, b - 1]) (n := ks2.length + 1) (fun a => by rw [List.length_map, lr]; exact Nat.le_refl _) (ran (ks1.length + 1 : Nat))
  rw [lr] at h2
  exact h2
theorem behind_ok {o : Ofc} {ks : List (List Int)} (c : Closed o ks ks.length) {i : Int} {st : List Int} : NumOk ks (behindM o ks i st) := by
  unfold behindM
  by_cases h : Mv o ks i st
  · rw [if_pos h]
    obtain ⟨h0, s, hs, h1, h2⟩ := h
    have hl := (List.getElem?_eq_some_iff.mp hs).1
    have eg : ks.getD i.toNat [] = s := by rw [List.getD_eq_getElem?_getD, hs]; rfl
    rw [eg]
    exact .inr ⟨by omega, by have := List.idxOf_lt_length_of_mem (c _ s hl hs st h1 h2); omega⟩
  · rw [if_neg h]; exact .inl rfl
end Fd
set_option Elab.async false
set_option linter.all false
set_option maxRecDepth 100000
set_option maxHeartbeats 4000000
namespace Fd
open PySem PySem.Spec PyProof.Rows L2 RZ PySem.W
def encS (ss : List (List Int)) : PyData := .tuple (ss.map tI)
theorem SS.enc : Enc SS encS := TT.enc TI.enc
theorem alike_S : ∀ a b : List (List Int), alikeAll (a.map tI) (b.map tI) = true
  | [], _ => by simp [alikeAll]
  | _ :: _, [] => by simp [alikeAll]
  | x :: a, y :: b => by
    rw [List.map_cons, List.map_cons, alikeAll, alike_S a b]
    show (alike (.tuple (x.map .int)) (.tuple (y.map .int)) && true) = true
    rw [alike, alike_ints]; rfl
theorem depth_S : ∀ a : List (List Int), PyData.depthAll (a.map tI) ≤ 1
  | [] => by simp [PyData.depthAll]
  | x :: a => by
    have := depth_S a
    rw [List.map_cons, PyData.depthAll]
    have h : (tI x).depth ≤ 1 := by
      show PyData.depth (.tuple (x.map .int)) ≤ 1
      rw [PyData.depth, depth_ints]; decide
    omega
def putL (lat : Lay) (g : List Int) (ss : List (List Int)) : Lay := if g ∈ lat.map (·.1) then lat.map (fun x => if x.1 = g then (g, ss) else x) else lat ++ [(g, ss)]
theorem mem_putL {lat : Lay} {g : List Int} {ss : List (List Int)} {x : List Int × List (List Int)} (h : x ∈ putL lat g ss) : x ∈ lat ∨ x = (g, ss) := by
  unfold putL at h
  by_cases c : g ∈ lat.map (·.1)
  · rw [if_pos c] at h
    obtain ⟨y, hy, e⟩ := List.mem_map.mp h
    by_cases d : y.1 = g
    · rw [if_pos d] at e; exact .inr e.symm
    · rw [if_neg d] at e; rw [← e]; exact .inl hy
  · rw [if_neg c] at h
    rcases List.mem_append.mp h with z | z
    · exact .inl z
    · exact .inr (List.mem_singleton.mp z)
theorem keys_putL (lat : Lay) (g : List Int) (ss : List (List Int)) : (putL lat g ss).map (·.1) = addk (lat.map (·.1)) g := by
  unfold putL addk
  by_cases c : g ∈ lat.map (·.1)
  · rw [if_pos c, if_pos c, List.map_map]
    apply List.map_congr_left
    intro x _
    show (if x.1 = g then (g, ss) else x).1 = x.1
    by_cases d : x.1 = g
    · rw [if_pos d]; exact d.symm
    · rw [if_neg d]
  · rw [if_neg c, if_neg c, List.map_append]; rfl
abbrev LR (H : Hp) : List Key × V → List Int × List (List Int) → Prop := fun kv x => kv.1 = keyI x.1 ∧ SS H kv.2 x.2
theorem lay_keys {H : Hp} : ∀ {kvs : List (List Key × V)} {lat : Lay}, Paired (LR H) kvs lat → kvs.map (·.1) = (lat.map (·.1)).map keyI
  | _, _, .nil => rfl
  | _, _, .cons h t => by rw [List.map_cons, List.map_cons, List.map_cons, lay_keys t, h.1]
theorem pmap2 {α β : Type} {F : α → β → Prop} {f : α → α} {g : β → β} (h : ∀ a b, F a b → F (f a) (g b)) : ∀ {l : List α} {m : List β}, Paired F l m → Paired F (l.map f) (m.map g)
  | _, _, .nil => .nil
  | _, _, .cons q t => .cons (h _ _ q) (pmap2 h t)
theorem lay_put {H : Hp} {kvs : List (List Key × V)} {lat : Lay} {g : List Int} {v : V} {ss : List (List Int)} (p : Paired (LR H) kvs lat) (h : SS H v ss) : Paired (LR H) (putK kvs (keyI g) v) (putL lat g ss) := by
  have ek := lay_keys p
  unfold putK putL
  by_cases c : g ∈ lat.map (·.1)
  · have q : (kvs.any fun kv => decide (kv.1 = keyI g)) = true := by
      have : keyI g ∈ kvs.map (·.1) := by rw [ek]; exact List.mem_map_of_mem c
      obtain ⟨x, hx, e⟩ := List.mem_map.mp this
      exact List.any_eq_true.mpr ⟨x, hx, decide_eq_true e⟩
    rw [if_pos q, if_pos c]
    refine pmap2 (fun a b r => ?_) p
    by_cases d : b.1 = g
    · have d' : a.1 = keyI g := by rw [r.1, d]
      rw [if_pos d, if_pos d']
      exact ⟨d', h⟩
    · have d' : ¬ a.1 = keyI g := fun z => d (keyI_inj (r.1.symm.trans z))
      rw [if_neg d, if_neg d']
      exact r
  · have q : ¬ (kvs.any fun kv => decide (kv.1 = keyI g)) = true := fun q => by
      obtain ⟨x, hx, e⟩ := List.any_eq_true.mp q
      have : keyI g ∈ kvs.map (·.1) := by rw [← of_decide_eq_true e]; exact List.mem_map_of_mem hx
      rw [ek] at this
      obtain ⟨y, hy, e⟩ := List.mem_map.mp this
      rw [keyI_inj e] at hy
      exact c hy
    rw [if_neg q, if_neg c]
    exact papp p (.cons ⟨rfl, h⟩ .nil)
theorem lay_get {H : Hp} {g : List Int} : ∀ {kvs : List (List Key × V)} {lat : Lay}, Paired (LR H) kvs lat → (g ∉ lat.map (·.1) ∧ valV kvs (keyI g) = none) ∨ ∃ v ss, (g, ss) ∈ lat ∧ valV kvs (keyI g) = some v ∧ SS H v ss
  | _, _, .nil => .inl ⟨by simp, rfl⟩
  | _, _, @Paired.cons _ _ _ kv x kvs lat h t => by
    by_cases c : x.1 = g
    · refine .inr ⟨kv.2, x.2, by rw [← c]; simp, valV_pos (by rw [h.1, c]), h.2⟩
    · have n : ¬ kv.1 = keyI g := fun z => c (keyI_inj (h.1.symm.trans z))
      rw [valV_neg n]
      rcases lay_get (g := g) t with ⟨z1, z2⟩ | ⟨v, ss, z1, z2, z3⟩
      · exact .inl ⟨fun z => by
          rcases List.mem_cons.mp z with q | q
          · exact c q.symm
          · exact z1 q, z2⟩
      · exact .inr ⟨v, ss, by simp [z1], z2, z3⟩
theorem met_get {kvs : List (List Key × V)} {met : List (List Int)} {g : List Int} (h : kvs.map (·.1) = met.map keyI) : (valV kvs (keyI g)).isSome = decide (g ∈ met) := by
  rw [← valV_any]
  by_cases c : g ∈ met
  · rw [decide_eq_true c]
    have : keyI g ∈ kvs.map (·.1) := by rw [h]; exact List.mem_map_of_mem c
    obtain ⟨x, hx, e⟩ := List.mem_map.mp this
    exact List.any_eq_true.mpr ⟨x, hx, decide_eq_true e⟩
  · rw [decide_eq_false c]
    refine Bool.eq_false_iff.mpr fun q => ?_
    obtain ⟨x, hx, e⟩ := List.any_eq_true.mp q
    have : keyI g ∈ kvs.map (·.1) := by rw [← of_decide_eq_true e]; exact List.mem_map_of_mem hx
    rw [h] at this
    obtain ⟨y, hy, e⟩ := List.mem_map.mp this
    rw [keyI_inj e] at hy
    exact c hy
/-- one way on from a layer -/
def Cand (o1 o2 : Ofc) (ks1 ks2 : List (List Int)) (y : List Int × List (List Int)) (st : List Int) (x : List Int × List (List Int)) : Prop := ∃ i j, y.1 = [i, j] ∧ (Mv o1 ks1 i st ∨ Mv o2 ks2 j st) ∧ x = ([behindM o1 ks1 i st, behindM o2 ks2 j st], y.2 ++ [st])
/-- the later layer is made of ways on -/
structure LatOk (o1 o2 : Ofc) (ks1 ks2 : List (List Int)) (met : List (List Int)) (lay lat : Lay) : Prop where
  nd : (lat.map (·.1)).Nodup
  ok : ∀ x ∈ lat, x.1 ∉ met ∧ PairN ks1 ks2 x.1 ∧ ∃ y ∈ lay, ∃ st, Cand o1 o2 ks1 ks2 y st x
theorem LatOk.put {o1 o2 : Ofc} {ks1 ks2 : List (List Int)} {met : List (List Int)} {lay lat : Lay} (x : LatOk o1 o2 ks1 ks2 met lay lat) {g : List Int} {ss : List (List Int)} (h : g ∉ met) (hp : PairN ks1 ks2 g) (hc : ∃ y ∈ lay, ∃ st, Cand o1 o2 ks1 ks2 y st (g, ss)) : LatOk o1 o2 ks1 ks2 met lay (putL lat g ss) :=
  ⟨by rw [keys_putL]; exact addk_nodup x.nd, fun z hz => (mem_putL hz).elim (x.ok z) fun e => by rw [e]; exact ⟨h, hp, hc⟩⟩
theorem unlock {S : Addr → Prop} {H H' : Hp} {d : Addr} {u : HO} (h : H d = some u) (nt : ∀ xs, u ≠ .tup xs) (k : Ks (fun a => a = d ∨ S a) H H') : Ks S H (upd H' d u) :=
  ⟨fun a o n e => by
    by_cases c : a = d
    · subst c; rw [upd_same, ← h, e]
    · rw [upd_ne c]; exact k.keep a o (fun z => z.elim c n) e,
   fun a xs e => by
    by_cases c : a = d
    · subst c; rw [h] at e; exact absurd (Option.some.inj e) (nt xs)
    · rw [upd_ne c]; exact k.tup a xs e,
   fun a e => by
    by_cases c : a = d
    · subst c; rw [upd_same]; simp
    · rw [upd_ne c]; exact k.there a e⟩
def sp_advance (C CR : Addr) : Sp := fun xs H Q _ => ∃ p md o1 o2 ks1 ks2 m met lay, xs = [.ref p] ∧ EdAt C CR H p md o1 o2 ks1 ks2 m met lay ∧ (Wf o1 ∧ Closed o1 ks1 ks1.length ∧ ks1.length ≤ 100) ∧ (Wf o2 ∧ Closed o2 ks2 ks2.length ∧ ks2.length ≤ 100) ∧
  (∀ x ∈ lay, PairN ks1 ks2 x.1 ∧ x.2.length < 100000) ∧ (∀ g ∈ met, PairN ks1 ks2 g) ∧
  ∀ met' lay' H', LatOk o1 o2 ks1 ks2 met lay lay' → (∀ g, g ∈ met' ↔ g ∈ met ∨ g ∈ lay'.map (·.1)) → met'.Nodup → met'.length = met.length + lay'.length → Ks (fun a => a = p ∨ a = md) H H' → EdAt C CR H' p md o1 o2 ks1 ks2 m met' lay' → Q .non H'
section
variable {P : Program} {w : World} {K : PySem.W.Frag} {mg : Str → Option Value} {base : Heap} (T : Txt K mg)
include T
theorem ok_Editions_advance : FnOk P w K mg base CX0 2 T.a_Editions_advance T.d_Editions_advance P_Editions_advance (sp_advance T.a_Editions T.a_Reader) := by
  refine T.F_Editions_advance.ok sc_Editions_advance (fun vs H Q E h => ?_) (fun cdv A outer s H vs Q E hr h => ?_)
  · obtain ⟨p, md, o1, o2, ks1, ks2, m, met, lay, rfl, _⟩ := h; rfl
  · obtain ⟨p, md, o1, o2, ks1, ks2, m, met, lay, rfl, ed, ⟨wf1, cl1, l1⟩, ⟨wf2, cl2, l2⟩, hlay, hmet, k⟩ := h
    have hu := hu_of hr
    have ec := T.ec
    have rc := T.rc
    obtain ⟨dx, rt, x1, x2, ld, hp, tw, ⟨kvm, hmd, ekm, ndm⟩, ⟨kvs, hld, pl, ndl⟩, nml⟩ := ed.ex
    have lpl := plen pl
    refine ⟨_, (pss_cons (ps_asg (pe_fld (pv 0) rfl) (pg_tup rfl (pgs_cons (pg_name (i := 1) sc_Editions_advance.nd rfl (Or.inl rfl)) (pgs_cons (pg_name (i := 2) sc_Editions_advance.nd rfl (Or.inl rfl)) pgs_nil))))
  (pss_cons (ps_set (i := 3) sc_Editions_advance.nd rfl (Or.inl rfl) pe_dnewT)
  (pss_cons (ps_lock (ps_for PassesOwn.never rfl (pi_itemsT (pe_fld (pv 0) rfl)) (pg_tup rfl (pgs_cons (pg_name (i := 4) sc_Editions_advance.nd rfl (Or.inl rfl)) (pgs_cons (pg_name (i := 5) sc_Editions_advance.nd rfl (Or.inl rfl)) pgs_nil))) (pss_one (ps_for PassesOwn.never rfl (pi_list (pe_meth (pv 0) T.c_Editions T.t_Editions_steps_from (ok_Editions_steps_from T) (hr.mono (by decide)) T.b_Editions_steps_from .nil pass0 (pa_cons (pv 4) pa_nil))) (pg_name (i := 6) sc_Editions_advance.nd rfl (Or.inl rfl)) (pss_cons (ps_set (i := 7) sc_Editions_advance.nd rfl (Or.inl rfl) (pe_tup (pa_cons (pe_meth (pv 1) T.c_Reader T.t_Reader_behind (ok_Reader_behind T) (hr.mono (by decide)) T.b_Reader_behind .nil pass0 (pa_cons (pe_ix ix_tup (pv 4) pe_int (fun _ _ => rfl)) (pa_cons (pv 6) pa_nil))) (pa_cons (pe_meth (pv 2) T.c_Reader T.t_Reader_behind (ok_Reader_behind T) (hr.mono (by decide)) T.b_Reader_behind .nil pass0 (pa_cons (pe_ix ix_tup (pv 4) pe_int (fun _ _ => rfl)) (pa_cons (pv 6) pa_nil))) pa_nil))))
  (pss_one (ps_if (pt_cmp (pc_dnotin hu (pv 7) (pe_fld (pv 0) rfl))) (pss_cons (ps_set (i := 8) sc_Editions_advance.nd rfl (Or.inl rfl) (pe_op op_catA (pv 5) (pe_tup (pa_cons (pv 6) pa_nil))))
  (pss_one (ps_if (PW.pt (pw_or (pt_cmp (pc_dnotin hu (pv 7) (pv 3))) (pw_or1 (pt_cmpR (op_ltD hr) (pv 8) (pe_dget hu (pv 3) (pv 7) (fun _ _ => rfl)) (nomark _))))) (pss_one (ps_dput hu (pv 3) (pv 7) (pv 8) rfl)) pss_nil))) pss_nil)))))))
  (pss_cons (ps_lock (ps_for PassesOwn.never rfl (pi_keys (pv 3)) (pg_name (i := 7) sc_Editions_advance.nd rfl (Or.inl rfl)) (pss_one (ps_dput hu (pe_fld (pv 0) rfl) (pv 7) pe_bl rfl))))
  (pss_one (ps_fld (pv 0) (pv 3) rfl)))))), ?_⟩
    refine ⟨_, rfl, p, _, dx, _, _, rfl, hp, ec.c, ec.n1, edF_r _ _ _ _, rt, _, rfl, SqT.of (Hd.le _ _ tw.t), rfl, _, _, rfl, _, _, rfl, rfl, ?_⟩
    -- later
    intro lt hlt
    have k1 : Ke H (upd H lt (.dT [])) := Ke.new hlt
    have hlt1 : (upd H lt (.dT [])) lt = some (.dT []) := upd_same
    generalize hH1 : upd H lt (.dT []) = H1 at k1 hlt1 ⊢
    have hl1 := k1.at hld
    have hm1 := k1.at hmd
    have hp1 := k1.at hp
    have nlt : ld ≠ lt := ne_of_none hld hlt
    have nmt : md ≠ lt := ne_of_none hmd hlt
    have npt : p ≠ lt := ne_of_none hp hlt
    have npl : p ≠ ld := ne_of hp hld (fun z => nomatch z)
    have npm : p ≠ md := ne_of hp hmd (fun z => nomatch z)
    have tw1 : TwoRd T.a_Reader (Hd (fun a => a = p ∨ a = md ∨ a = ld ∨ a = lt) H1) rt x1 x2 o1 o2 ks1 ks2 := tw.ke (Ke.of fun a o e => by
      obtain ⟨q1, q2⟩ := Hd.at e
      exact Hd.get (fun z => z.elim (fun z => q1 (.inl z)) fun z => z.elim (fun z => q1 (.inr (.inl z))) fun z => z.elim (fun z => q1 (.inr (.inr z))) fun z => by rw [z, hlt] at q2; cases q2) (k1.at q2))
    -- the layer is walked
    refine ⟨ld, .dT kvs, hl1, True.intro, fun od => ?_⟩
    have kl : Ks (fun a => a = ld ∨ a = lt) H1 (upd H1 ld (.frz od (.dT kvs))) := (lock_ks hl1 (fun _ z => nomatch z)).mono fun a z => .inl z
    refine ⟨_, rfl, p, _, dx, _, _, rfl, by rw [upd_ne npl]; exact hp1, ec.c, ec.n4, edF_l _ _ _ _, ld, od, kvs, rfl, upd_same, ?_⟩
    refine for_it walk_itemsT (fun n σ H' => (∃ s4 s5 s6 s7 s8, σ = [some (.ref p), some (.ref x1), some (.ref x2), some (.ref lt), s4, s5, s6, s7, s8]) ∧ Ks (fun a => a = ld ∨ a = lt) H1 H' ∧ H' ld = some (.frz od (.dT kvs)) ∧ ∃ kvl lat, H' lt = some (.dT kvl) ∧ Paired (LR H') kvl lat ∧ LatOk o1 o2 ks1 ks2 met lay lat)
      ⟨⟨_, _, _, _, _, rfl⟩, kl, upd_same, [], [], by rw [upd_ne nlt.symm]; exact hlt1, .nil, by simp, fun x hx => by cases hx⟩ (fun n σ H' _ q => q.2.2.1) ?_ ?_
    · rintro n x σ H2 H2' hn ⟨⟨s4, s5, s6, s7, s8, rfl⟩, k2, hl2, kvl, lat, hlt2, plt, lok⟩ ⟨t, key, v, q, hkv, hq, rfl, ht, rfl⟩
      obtain ⟨y, hy, ekey, ssy⟩ := pgetL pl hkv
      have ym := List.mem_of_getElem? hy
      obtain ⟨⟨i, j, ey, ni, nj⟩, ysl⟩ := hlay y ym
      have ek : key.map kV = [.int i, .int j] := by
        have e2 : key = keyI y.1 := ekey
        rw [e2, keyI_kV, ey]; rfl
      rw [ek] at hq
      have k3 : Ke H2 (upd H2 t (.tup [.ref q, v])) := Ke.new ht
      have hl3 := k3.at hl2
      have hq3 := k3.at hq
      have hlt3 := k3.at hlt2
      have plt3 : Paired (LR (upd H2 t (.tup [.ref q, v]))) kvl lat := pimp (fun a b r => ⟨r.1, SS.stb _ _ _ _ k3.tx r.2⟩) plt
      have k03 : Ks (fun a => a = ld ∨ a = lt) H1 (upd H2 t (.tup [.ref q, v])) := k2.trans k3.ks
      have htt : (upd H2 t (.tup [.ref q, v])) t = some (.tup [.ref q, v]) := upd_same
      have ssy3 : SS (upd H2 t (.tup [.ref q, v])) v y.2 := SS.stb _ _ _ _ (k1.tx.trans k03.tx) ssy
      generalize hH3 : upd H2 t (.tup [.ref q, v]) = H3 at k03 hl3 hq3 htt hlt3 plt3 ssy3 ⊢
      clear k3 plt hlt2
      have get3 : ∀ a o, a ≠ ld → a ≠ lt → H1 a = some o → H3 a = some o := fun a o z1 z2 h => k03.keep a o (fun z => z.elim z1 z2) h
      have hp3 := get3 _ _ npl npt hp1
      have hX : ∀ {H' : Hp}, Ks (fun a => a = ld ∨ a = lt) H1 H' → TwoRd T.a_Reader H' rt x1 x2 o1 o2 ks1 ks2 := fun kk => (tw1.ke (Hd.ke (kk.mono fun a z => z.elim (fun z => .inr (.inr (.inl z))) fun z => .inr (.inr (.inr z))))).ke (Le.ke Hd.le)
      refine ⟨t, _, rfl, SqT.of htt, rfl, _, _, rfl, _, _, rfl, rfl, ?_⟩
      -- steps_from
      refine ⟨_, rfl, p, dx, _, rfl, hp3, edF_no _ _ _ _ (by decide +kernel) (by decide +kernel) (by decide +kernel) (by decide +kernel), _, rfl, p, dx, _, rt, x1, x2, o1, o2, ks1, ks2, .ref q, i, j, rfl, hp3, edF_r _ _ _ _, hX k03, wf1, wf2, ni, nj, ⟨q, rfl, hq3⟩, ?_⟩
      intro sl sw sts H4 hsl k4 hsl4 psl msl _
      have nsl : sl ≠ lt := fun z => by rw [z, hlt3] at hsl; cases hsl
      have k04 := k03.trans k4.ks
      refine ⟨sl, rfl, ⟨_, SqL.of hsl4⟩, fo_L (R := TI H4) (fun dn σ H' => (∃ s6 s7 s8, σ = [some (.ref p), some (.ref x1), some (.ref x2), some (.ref lt), some (.ref q), some v, s6, s7, s8]) ∧ Ks (fun a => a = ld ∨ a = lt) H1 H' ∧ H' ld = some (.frz od (.dT kvs)) ∧ H' sl = some (.lst sw) ∧ Tx H4 H' ∧ ∃ kvl lat, H' lt = some (.dT kvl) ∧ Paired (LR H') kvl lat ∧ LatOk o1 o2 ks1 ks2 met lay lat) psl
        ⟨⟨_, _, _, rfl⟩, k04, k4.at hl3, hsl4, .refl, kvl, lat, k4.at hlt3, pimp (fun a b r => ⟨r.1, SS.stb _ _ _ _ k4.tx r.2⟩) plt3, lok⟩ (fun dn σ H' z => z.2.2.2.1) ?_ ?_⟩
      · rintro dn st r w' σ H5 e ⟨sa, rfl, hsa⟩ ⟨⟨s6, s7, s8, rfl⟩, k05, hl5, hsl5, t45, kvl5, lat5, hlt5, plt5, lok5⟩
        have hsa5 := t45.tup _ _ hsa
        have hst := (msl st).mp (by rw [e]; simp)
        have hq5 := t45.tup _ _ (k4.at hq3)
        have tw5 := hX k05
        obtain ⟨d1, tl1, sl1, kl1, _, _, _, hx1, _⟩ := tw5.a.ex
        obtain ⟨d2, tl2, sl2, kl2, _, _, _, hx2, _⟩ := tw5.b.ex
        -- goal
        refine ⟨_, rfl, x1, d1, _, rfl, hx1, rdF_no _ _ _ (by decide +kernel) (by decide +kernel) (by decide +kernel), _, rfl, q, _, 0, _, rfl, rfl, SqT.of hq5, rfl, _, rfl, x1, o1, ks1, i, _, st, rfl, tw5.a, ni, ⟨sa, rfl, hsa5⟩, ?_⟩
        refine ⟨_, rfl, x2, d2, _, rfl, hx2, rdF_no _ _ _ (by decide +kernel) (by decide +kernel) (by decide +kernel), _, rfl, q, _, 1, _, rfl, rfl, SqT.of hq5, rfl, _, rfl, x2, o2, ks2, j, _, st, rfl, tw5.b, nj, ⟨sa, rfl, hsa5⟩, ?_⟩
        refine ⟨(by show 2 ≤ sizeLine; decide), fun gt hgt => ?_⟩
        have k6 : Ke H5 (upd H5 gt (.tup [.int (behindM o1 ks1 i st), .int (behindM o2 ks2 j st)])) := Ke.new hgt
        have hg6 : (upd H5 gt (.tup [.int (behindM o1 ks1 i st), .int (behindM o2 ks2 j st)])) gt = some (.tup ((keyI [behindM o1 ks1 i st, behindM o2 ks2 j st]).map kV)) := by rw [upd_same]; rfl
        have gN : PairN ks1 ks2 [behindM o1 ks1 i st, behindM o2 ks2 j st] := ⟨_, _, rfl, behind_ok cl1, behind_ok cl2⟩
        have cand : ∃ y ∈ lay, ∃ st', Cand o1 o2 ks1 ks2 y st' ([behindM o1 ks1 i st, behindM o2 ks2 j st], y.2 ++ [st]) := ⟨y, ym, st, i, j, ey, hst, rfl⟩
        have cand' : ∃ y' ∈ lay, ∃ st', Cand o1 o2 ks1 ks2 y' st' ([behindM o1 ks1 i st, behindM o2 ks2 j st], y.2 ++ [st]) := ⟨y, ym, st, i, j, ey, hst, rfl⟩
        generalize [behindM o1 ks1 i st, behindM o2 ks2 j st] = g at hg6 gN cand'
        have k06 := k05.trans k6.ks
        have hl6 := k6.at hl5
        have hsl6 := k6.at hsl5
        have t46 := t45.trans k6.tx
        have hlt6 := k6.at hlt5
        have plt6 : Paired (LR (upd H5 gt (.tup [.int (behindM o1 ks1 i st), .int (behindM o2 ks2 j st)]))) kvl5 lat5 := pimp (fun a b r => ⟨r.1, SS.stb _ _ _ _ k6.tx r.2⟩) plt5
        have hp6 : (upd H5 gt (.tup [.int (behindM o1 ks1 i st), .int (behindM o2 ks2 j st)])) p = some (.ins T.a_Editions dx (edF (.ref rt) (.int m) (.ref md) (.ref ld))) := k06.keep _ _ (fun z => z.elim npl npt) hp1
        have hm6 : (upd H5 gt (.tup [.int (behindM o1 ks1 i st), .int (behindM o2 ks2 j st)])) md = some (.dT kvm) := k06.keep _ _ (fun z => z.elim nml nmt) hm1
        generalize hH6 : upd H5 gt (.tup [.int (behindM o1 ks1 i st), .int (behindM o2 ks2 j st)]) = H6 at k06 hl6 hsl6 t46 hlt6 plt6 hp6 hm6 hg6 ⊢
        clear k6 plt5 hlt5
        refine ⟨_, rfl, _, rfl, p, _, dx, _, _, rfl, hp6, ec.c, ec.n3, edF_t _ _ _ _, md, _, rfl, DGet.t hm6 hg6, _, rfl, ?_⟩
        rw [met_get ekm]
        by_cases hgm : g ∈ met
        · exact ifNT hgm ⟨⟨_, _, _, rfl⟩, k06, hl6, hsl6, t46, kvl5, lat5, hlt6, plt6, lok5⟩
        · refine ifNF hgm ?_
          -- longer
          have ssy6 : SS H6 v y.2 := SS.stb _ _ _ _ (k4.tx.trans t46) ssy3
          obtain ⟨va, vw, rfl, hva, pva⟩ := ssy6
          have lva := plen pva
          have hsa6 := t46.tup _ _ hsa
          have lk5 : kvl5.length ≤ 101 * 101 := by
            have h1 := plen plt6
            have h2 := pairN_len lok5.nd (ks1 := ks1) (ks2 := ks2) fun g' hg' => by
              obtain ⟨x', hx', e'⟩ := List.mem_map.mp hg'
              rw [← e']; exact (lok5.ok x' hx').2.1
            have h3 : (ks1.length + 1) * (ks2.length + 1) ≤ 101 * 101 := Nat.mul_le_mul (by omega) (by omega)
            rw [List.length_map] at h2
            omega
          refine ⟨_, rfl, _, rfl, (by show 1 ≤ sizeLine; decide), fun u hu' => ⟨va, u, vw, [.ref sa], rfl, rfl, SqT.of ((Ke.new hu').at hva), SqT.of upd_same, (by rw [sizeLine_eq]; simp; omega), fun z => ?ca, (fun _ z => by cases z), fun nz _ b hb => ?cc⟩⟩
          case' ca =>
            have F : Ke H6 (upd H6 u (.tup [.ref sa])) ∧ SS (upd H6 u (.tup [.ref sa])) (.ref u) (y.2 ++ [st]) := by
              have e0 : y.2 = [] := by
                have : y.2.length = 0 := by rw [← lva, z]; rfl
                exact List.length_eq_zero_iff.mp this
              refine ⟨Ke.new hu', u, [.ref sa], rfl, upd_same, ?_⟩
              rw [e0]
              exact .cons ⟨sa, rfl, (Ke.new hu').at hsa6⟩ .nil
          case' cc =>
            have F : Ke H6 (upd (upd H6 u (.tup [.ref sa])) b (.tup (vw ++ [.ref sa]))) ∧ SS (upd (upd H6 u (.tup [.ref sa])) b (.tup (vw ++ [.ref sa]))) (.ref b) (y.2 ++ [st]) := by
              have kk : Ke H6 (upd (upd H6 u (.tup [.ref sa])) b (.tup (vw ++ [.ref sa]))) := (Ke.new hu').trans (Ke.new hb)
              exact ⟨kk, b, _, rfl, upd_same, papp (pimp (fun v x r => TI.stb _ _ v x kk.tx r) pva) (.cons ⟨sa, rfl, kk.at hsa6⟩ .nil)⟩
          all_goals
            obtain ⟨k7, ss7⟩ := F
            have hlt7 := k7.at hlt6
            have hg7 := k7.at hg6
            have plt7 := pimp (fun a b r => ⟨r.1, SS.stb _ _ _ _ k7.tx r.2⟩) plt6 (G := LR _)
            have nn : ∀ ys, HO.dT kvl5 ≠ .tup ys := fun _ z => nomatch z
            refine ⟨_, rfl, _, rfl, lt, _, rfl, DGet.t hlt7 hg7, _, rfl, ?_⟩
            rcases lay_get (g := g) plt7 with ⟨z1, z2⟩ | ⟨v0, ss0, z1, z2, z3⟩
            · rw [z2]
              refine iteT (iteT ⟨_, rfl, _, rfl, _, rfl, lt, _, rfl, DPut.t hlt7 hg7 (by rw [sizeLine_eq]; omega), ?_⟩)
              exact ⟨⟨_, _, _, rfl⟩, (k06.trans k7.ks).mut (.inr rfl) (fun ys z => by rw [hlt7] at z; cases z), by rw [upd_ne nlt]; exact k7.at hl6, by rw [upd_ne nsl]; exact k7.at hsl6, t46.trans (k7.tx.trans (put_tx hlt7 nn)), _, _, upd_same, pimp (fun a b r => ⟨r.1, SS.stb _ _ _ _ (put_tx hlt7 nn) r.2⟩) (lay_put plt7 ss7), lok5.put hgm gN cand'⟩
            · rw [z2]
              refine iteF ⟨_, rfl, _, rfl, _, rfl, lt, v0, rfl, by rw [← z2]; exact DGet.t hlt7 hg7, encS (y.2 ++ [st]), encS ss0, SS.enc K _ _ _ ss7, SS.enc K _ _ _ z3, ?_, (fun z => nomatch z), ?_, _, rfl, ?_⟩
              · show alike (.tuple _) (.tuple _) = true
                rw [alike]; exact alike_S _ _
              · show PyData.depth (.tuple _) ≤ 60
                rw [PyData.depth]
                have := depth_S (y.2 ++ [st])
                omega
              · cases hb2 : dataLt (encS (y.2 ++ [st])) (encS ss0) with
                | true =>
                  refine iteT ⟨_, rfl, _, rfl, _, rfl, lt, _, rfl, DPut.t hlt7 hg7 (by rw [sizeLine_eq]; omega), ?_⟩
                  exact ⟨⟨_, _, _, rfl⟩, (k06.trans k7.ks).mut (.inr rfl) (fun ys z => by rw [hlt7] at z; cases z), by rw [upd_ne nlt]; exact k7.at hl6, by rw [upd_ne nsl]; exact k7.at hsl6, t46.trans (k7.tx.trans (put_tx hlt7 nn)), _, _, upd_same, pimp (fun a b r => ⟨r.1, SS.stb _ _ _ _ (put_tx hlt7 nn) r.2⟩) (lay_put plt7 ss7), lok5.put hgm gN cand'⟩
                | false =>
                  exact iteF ⟨⟨_, _, _, rfl⟩, k06.trans k7.ks, k7.at hl6, k7.at hsl6, t46.trans k7.tx, _, _, hlt7, plt7, lok5⟩
      · rintro σ H5 ⟨⟨s6, s7, s8, rfl⟩, k05, hl5, hsl5, t45, kvl5, lat5, hlt5, plt5, lok5⟩
        exact ⟨⟨_, _, _, _, _, rfl⟩, k05, hl5, kvl5, lat5, hlt5, plt5, lok5⟩
    · rintro σ H2 ⟨⟨s4, s5, s6, s7, s8, rfl⟩, k2, hl2, kvl, lat, hlt2, plt, lok⟩
      refine ⟨hl2, ?_⟩
      have kU : Ks (fun a => a = lt) H1 (upd H2 ld (.dT kvs)) := unlock hl1 (fun _ z => nomatch z) k2
      have hltU : (upd H2 ld (.dT kvs)) lt = some (.dT kvl) := by rw [upd_ne nlt.symm]; exact hlt2
      have tU : Tx H2 (upd H2 ld (.dT kvs)) := put_tx hl2 (fun _ z => nomatch z)
      have pltU : Paired (LR (upd H2 ld (.dT kvs))) kvl lat := pimp (fun a b r => ⟨r.1, SS.stb _ _ _ _ tU r.2⟩) plt
      generalize hHU : upd H2 ld (.dT kvs) = HU at kU hltU pltU ⊢
      have hpU := kU.keep _ _ npt hp1
      have hmU := kU.keep _ _ nmt hm1
      have ekl := lay_keys pltU
      have lkl : kvl.length = lat.length := plen pltU
      have lks : lat.length ≤ 101 * 101 := by
        have h2 := pairN_len lok.nd (ks1 := ks1) (ks2 := ks2) fun g' hg' => by
          obtain ⟨x', hx', e'⟩ := List.mem_map.mp hg'
          rw [← e']; exact (lok.ok x' hx').2.1
        have h3 : (ks1.length + 1) * (ks2.length + 1) ≤ 101 * 101 := Nat.mul_le_mul (by omega) (by omega)
        rw [List.length_map] at h2
        omega
      have lmm : met.length ≤ 101 * 101 := by
        have h2 := pairN_len ndm hmet
        have h3 : (ks1.length + 1) * (ks2.length + 1) ≤ 101 * 101 := Nat.mul_le_mul (by omega) (by omega)
        omega
      refine ⟨lt, .dT kvl, hltU, True.intro, fun od2 => ?_⟩
      have kl2 : Ks (fun a => a = lt ∨ a = md) HU (upd HU lt (.frz od2 (.dT kvl))) := (lock_ks hltU (fun _ z => nomatch z)).mono fun a z => .inl z
      refine ⟨_, rfl, lt, od2, rfl, .inr ⟨kvl, upd_same, ?_⟩⟩
      refine for_it (walk_keysT (d := lt) (o := od2) (kvs := kvl)) (fun n σ H' => (∃ s4 s5 s6 s7 s8, σ = [some (.ref p), some (.ref x1), some (.ref x2), some (.ref lt), s4, s5, s6, s7, s8]) ∧ H' lt = some (.frz od2 (.dT kvl)) ∧ Ks (fun a => a = lt ∨ a = md) HU H' ∧ ∃ (kvm' : List (List Key × V)) (met' : List (List Int)), H' md = some (.dT kvm') ∧ kvm'.map (·.1) = met'.map keyI ∧ met'.Nodup ∧ (∀ g, g ∈ met' ↔ g ∈ met ∨ g ∈ (lat.map (·.1)).take n) ∧ met'.length = met.length + n)
        ⟨⟨_, _, _, _, _, rfl⟩, upd_same, kl2, kvm, met, by rw [upd_ne nmt]; exact hmU, ekm, ndm, (fun g => by simp), rfl⟩ (fun n σ H' _ q => q.2.1) ?_ ?_
      · rintro n x σ H3 H3' hn ⟨⟨s4, s5, s6, s7, s8, rfl⟩, hlt3, k3, kvm', met', hm3, ek3, nd3, mm3, ln3⟩ ⟨rfl, key, v, q, hkv, rfl, hq⟩
        obtain ⟨g, hg, ekey⟩ : ∃ g, (lat.map (·.1))[n]? = some g ∧ key = keyI g := by
          have z1 : (kvl.map (·.1))[n]? = some key := by rw [List.getElem?_map, hkv]; rfl
          rw [ekl, List.getElem?_map] at z1
          cases z2 : (lat.map (·.1))[n]? with
          | none => rw [z2] at z1; cases z1
          | some g => rw [z2] at z1; exact ⟨g, rfl, (Option.some.inj z1).symm⟩
        subst ekey
        have hp3 := k3.keep _ _ (fun z => z.elim npt npm) hpU
        have lk3 : kvm'.length = met'.length := by have := congrArg List.length ek3; simpa using this
        have gm : g ∉ met' := fun z => by
          rcases (mm3 g).mp z with z | z
          · obtain ⟨x', hx', e'⟩ := List.mem_map.mp (List.mem_of_getElem? hg)
            exact (lok.ok x' hx').1 (by rw [e']; exact z)
          · obtain ⟨i', hi'⟩ := List.mem_iff_getElem?.mp z
            have hlt' : i' < n := by have := (List.getElem?_eq_some_iff.mp hi').1; rw [List.length_take] at this; omega
            rw [List.getElem?_take, if_pos hlt'] at hi'
            obtain ⟨h1, e1⟩ := List.getElem?_eq_some_iff.mp hi'
            obtain ⟨h2, e2⟩ := List.getElem?_eq_some_iff.mp hg
            have := (List.nodup_iff_pairwise_ne.mp lok.nd)
            have := List.pairwise_iff_getElem.mp this i' n h1 h2 hlt'
            exact this (e1.trans e2.symm)
        refine ⟨_, rfl, p, _, dx, _, _, rfl, hp3, ec.c, ec.n3, edF_t _ _ _ _, _, rfl, md, _, rfl, DPut.t hm3 hq (by rw [sizeLine_eq]; omega), ⟨_, _, _, _, _, rfl⟩, by rw [upd_ne nmt.symm]; exact hlt3, k3.mut (.inr rfl) (fun ys z => by rw [hm3] at z; cases z), _, addk met' g, upd_same, keys_put keyI (fun _ _ z => keyI_inj z) ek3, addk_nodup nd3, fun x' => ?_, ?_⟩
        · rw [mem_addk, mm3, List.take_succ, hg]
          simp [or_assoc]
        · unfold addk
          rw [if_neg gm, List.length_append, ln3]; rfl
      · rintro σ H3 ⟨⟨s4, s5, s6, s7, s8, rfl⟩, hlt3, k3, kvm', met', hm3, ek3, nd3, mm3, ln3⟩
        refine ⟨hlt3, ?_⟩
        have kV : Ks (fun a => a = md) HU (upd H3 lt (.dT kvl)) := unlock hltU (fun _ z => nomatch z) k3
        have hmV : (upd H3 lt (.dT kvl)) md = some (.dT kvm') := by rw [upd_ne nmt]; exact hm3
        have hltV : (upd H3 lt (.dT kvl)) lt = some (.dT kvl) := upd_same
        generalize hHV : upd H3 lt (.dT kvl) = HV at kV hmV hltV ⊢
        have hpV := kV.keep _ _ npm hpU
        refine ⟨_, rfl, _, rfl, p, _, dx, _, rfl, hpV, ec.c, ec.n4, (by rw [edF_l4]; show 4 < 1000; decide), ?_⟩
        rw [edF_put]
        have kW : Ks (fun a => a = md ∨ a = p) HU (upd HV p (.ins T.a_Editions dx (edF (.ref rt) (.int m) (.ref md) (.ref lt)))) := (kV.mono fun a z => .inl z).mut (.inr rfl) (fun ys z => by rw [hpV] at z; cases z)
        have eln : (lat.map (·.1)).take kvl.length = lat.map (·.1) := by rw [lkl, ← List.length_map (as := lat) (·.1), List.take_length]
        refine k met' lat _ lok (fun g => by rw [mm3, eln]) nd3 (by rw [ln3, lkl]) ?_ ⟨dx, rt, x1, x2, lt, upd_same, ?_, ⟨kvm', by rw [upd_ne npm.symm]; exact hmV, ek3, nd3⟩, ⟨kvl, by rw [upd_ne npt.symm]; exact hltV, pimp (fun a b r => ⟨r.1, SS.stb _ _ _ _ kW.tx r.2⟩) pltU, lok.nd⟩, nmt⟩
        · refine (k1.comp kU (U := fun a => a = p ∨ a = md) (fun _ z => z.elim) (fun a z => .inr (by rw [z]; exact hlt))).comp kW (fun _ z => z) fun a z => .inl (z.elim .inr .inl)
        · refine tw1.ke (Ke.of fun a o e => ?_)
          obtain ⟨q1, q2⟩ := Hd.at e
          exact Hd.get (fun z => z.elim (fun z => q1 (.inl z)) fun z => z.elim (fun z => q1 (.inr (.inl z))) fun z => q1 (.inr (.inr (.inr z)))) (kW.keep a o (fun z => z.elim (fun z => q1 (.inr (.inl z))) fun z => q1 (.inl z)) (kU.keep a o (fun z => q1 (.inr (.inr (.inr z)))) q2))
end
end Fd
set_option Elab.async false
set_option linter.all false
set_option maxRecDepth 100000
set_option maxHeartbeats 4000000
namespace Fd
open PySem PySem.Spec PyProof.Rows L2 PySem.W
/-- a day: its steps, its last mark -/
abbrev Day : Type := List (List Int) × Int
def DayR : Rl Day := fun H v x => ∃ t w, v = .ref t ∧ H t = some (.tup [w, .int x.2]) ∧ SS H w x.1
theorem DayR.stb : Stb DayR := fun _ _ _ _ k ⟨t, w, e, h, s⟩ => ⟨t, w, e, k.tup t _ h, SS.stb _ _ _ _ k s⟩
def encDay (x : Day) : PyData := .tuple [encS x.1, .int x.2]
theorem DayR.enc : Enc DayR encDay := fun K H v x ⟨t, w, e, h, s⟩ => by
  rw [e]
  exact .tup (SqT.of h) (.cons (SS.enc K H _ _ s) (.cons (.int _) .nil))
/-- the last marks at which a pair of the layer parts -/
def partsX (o1 o2 : Ofc) (ks1 ks2 : List (List Int)) (x : List Int × List (List Int)) (n : Nat) : List Day := ((List.range n).map Int.ofNat).filterMap fun last => if closesM o1 ks1 (x.1.getD 0 0) last = closesM o2 ks2 (x.1.getD 1 0) last then none else some (x.2, last)
def partsM (o1 o2 : Ofc) (ks1 ks2 : List (List Int)) (m : Int) (lay : Lay) : List Day := lay.flatMap fun x => partsX o1 o2 ks1 ks2 x m.toNat
theorem partsX_succ {o1 o2 : Ofc} {ks1 ks2 : List (List Int)} {x : List Int × List (List Int)} {n : Nat} : partsX o1 o2 ks1 ks2 x (n + 1) = partsX o1 o2 ks1 ks2 x n ++ if closesM o1 ks1 (x.1.getD 0 0) n = closesM o2 ks2 (x.1.getD 1 0) n then [] else [(x.2, (n : Int))] := by
  unfold partsX
  rw [List.range_succ, List.map_append, List.filterMap_append]
  congr 1
  show List.filterMap _ [(Int.ofNat n)] = _
  rw [List.filterMap_cons]
  split <;> rename_i h
  · split at h
    · rename_i c; exact (if_pos c).symm
    · cases h
  · split at h
    · cases h
    · rename_i c
      cases h
      exact (if_neg c).symm
theorem partsX_len {o1 o2 : Ofc} {ks1 ks2 : List (List Int)} {x : List Int × List (List Int)} {n : Nat} : (partsX o1 o2 ks1 ks2 x n).length ≤ n := by
  unfold partsX
  refine Nat.le_trans (List.length_filterMap_le _ _) ?_
  rw [List.length_map, List.length_range]; exact Nat.le_refl _
theorem parts_snoc {o1 o2 : Ofc} {ks1 ks2 : List (List Int)} {m : Int} {lay : Lay} {n : Nat} {x : List Int × List (List Int)} (h : lay[n]? = some x) : partsM o1 o2 ks1 ks2 m (lay.take (n + 1)) = partsM o1 o2 ks1 ks2 m (lay.take n) ++ partsX o1 o2 ks1 ks2 x m.toNat := by
  unfold partsM
  rw [List.take_succ, h, List.flatMap_append]
  simp
theorem parts_len {o1 o2 : Ofc} {ks1 ks2 : List (List Int)} {m : Int} : ∀ {lay : Lay}, (partsM o1 o2 ks1 ks2 m lay).length ≤ lay.length * m.toNat
  | [] => by simp [partsM]
  | x :: lay => by
    have h1 := parts_len (o1 := o1) (o2 := o2) (ks1 := ks1) (ks2 := ks2) (m := m) (lay := lay)
    have h2 := partsX_len (o1 := o1) (o2 := o2) (ks1 := ks1) (ks2 := ks2) (x := x) (n := m.toNat)
    unfold partsM at h1 ⊢
    rw [List.flatMap_cons, List.length_append, List.length_cons, Nat.succ_mul]
    omega
/-- parting: None, or the least of the days at which a pair parts -/
def sp_parting (C CR : Addr) : Sp := fun xs H Q _ => ∃ p md o1 o2 ks1 ks2 m met lay, xs = [.ref p] ∧ EdAt C CR H p md o1 o2 ks1 ks2 m met lay ∧ (0 ≤ m ∧ m ≤ 63) ∧ lay.length ≤ 10000 ∧ (∀ x ∈ lay, (∃ i j, x.1 = [i, j] ∧ NumOk ks1 i ∧ NumOk ks2 j)) ∧
  ∀ H', Ke H H' → (partsM o1 o2 ks1 ks2 m lay = [] → Q .non H') ∧ ∀ v d0 ds d, partsM o1 o2 ks1 ks2 m lay = d0 :: ds → d ∈ d0 :: ds → encDay d = PySem.W.minD (encDay d0) (ds.map encDay) → DayR H' v d → Q v H'
theorem alike_D (a b : Day) : alike (encDay a) (encDay b) = true := by
  unfold encDay encS
  rw [alike, alikeAll, alike, alike_S, alikeAll, alike, alikeAll]; rfl
theorem depth_D (a : Day) : (encDay a).depth ≤ 4 := by
  unfold encDay encS
  have := depth_S a.1
  rw [PyData.depth, PyData.depthAll, PyData.depth, PyData.depthAll, PyData.depth, PyData.depthAll]
  omega
theorem depths_D : ∀ l : List Day, PyData.depthAll (l.map encDay) ≤ 4
  | [] => by simp [PyData.depthAll]
  | a :: l => by
    have h1 := depth_D a
    have h2 := depths_D l
    rw [List.map_cons, PyData.depthAll]
    omega
theorem allalike_D (l : List Day) : PySem.W.AlikeAll (l.map encDay) := by
  refine ⟨fun x hx y hy => ?_, fun x hx => ?_⟩
  · obtain ⟨a, _, rfl⟩ := List.mem_map.mp hx
    obtain ⟨b, _, rfl⟩ := List.mem_map.mp hy
    exact alike_D a b
  · obtain ⟨a, _, rfl⟩ := List.mem_map.mp hx
    exact fun z => nomatch z
end Fd
set_option Elab.async false
set_option linter.all false
set_option maxRecDepth 100000
set_option maxHeartbeats 4000000
namespace Fd
open PySem PySem.Spec PyProof.Rows L2 PySem.W
section
variable {P : Program} {w : World} {K : PySem.W.Frag} {mg : Str → Option Value} {base : Heap} (T : Txt K mg)
include T
theorem ok_Editions_parting : FnOk P w K mg base CX0 2 T.a_Editions_parting T.d_Editions_parting P_Editions_parting (sp_parting T.a_Editions T.a_Reader) := by
  refine T.F_Editions_parting.ok sc_Editions_parting (fun vs H Q E h => ?_) (fun cdv A outer s H vs Q E hr h => ?_)
  · obtain ⟨p, md, o1, o2, ks1, ks2, m, met, lay, rfl, _⟩ := h; rfl
  · obtain ⟨p, md, o1, o2, ks1, ks2, m, met, lay, rfl, ed, hm, hlen, hl, k⟩ := h
    have ec := T.ec
    have rc := T.rc
    obtain ⟨dx, rt, x1, x2, ld, hp, tw, _, ⟨kvs, hld, pl, _⟩, nml⟩ := ed.ex
    have lpl := plen pl
    refine ⟨_, (pss_cons (ps_asg (pe_fld (pv 0) rfl) (pg_tup rfl (pgs_cons (pg_name (i := 1) sc_Editions_parting.nd rfl (Or.inl rfl)) (pgs_cons (pg_name (i := 2) sc_Editions_parting.nd rfl (Or.inl rfl)) pgs_nil))))
  (pss_cons (ps_set (i := 3) sc_Editions_parting.nd rfl (Or.inl rfl) (pe_lst pa_nil))
  (pss_cons (ps_lock (ps_for PassesOwn.never rfl (pi_itemsT (pe_fld (pv 0) rfl)) (pg_tup rfl (pgs_cons (pg_name (i := 4) sc_Editions_parting.nd rfl (Or.inl rfl)) (pgs_cons (pg_name (i := 5) sc_Editions_parting.nd rfl (Or.inl rfl)) pgs_nil))) (pss_one (ps_for PassesOwn.never rfl (pi_range1 rfl T.n_range (pa_cons (pe_fld (pv 0) rfl) pa_nil)) (pg_name (i := 6) sc_Editions_parting.nd rfl (Or.inl rfl)) (pss_one (ps_if (pt_cmpR op_ne (pe_meth (pv 1) T.c_Reader T.t_Reader_closes (ok_Reader_closes T) (hr.mono (by decide)) T.b_Reader_closes .nil pass0 (pa_cons (pe_ix ix_tup (pv 4) pe_int (fun _ _ => rfl)) (pa_cons (pv 6) pa_nil))) (pe_meth (pv 2) T.c_Reader T.t_Reader_closes (ok_Reader_closes T) (hr.mono (by decide)) T.b_Reader_closes .nil pass0 (pa_cons (pe_ix ix_tup (pv 4) pe_int (fun _ _ => rfl)) (pa_cons (pv 6) pa_nil))) (nomark _)) (pss_one (ps_expr (pe_bm PySem.F.plainAttrs_list PySem.F.slot_list_append PySem.F.type_list_append mt_append (pv 3) (pa_cons (pe_tup (pa_cons (pv 5) (pa_cons (pv 6) pa_nil))) pa_nil)))) pss_nil))))))
  (pss_one (ps_ret (pe_ifExp (pt_cmpR op_gt (pe_callB call_len (by rfl) T.n_len (by decide +kernel) (pa_cons (pv 3) pa_nil)) pe_int (nomark _)) (pe_callB (cr_minD hr rfl) (by rfl) T.n_min (by decide +kernel) (pa_cons (pv 3) pa_nil)) pe_non)))))), ?_⟩
    refine ⟨_, rfl, p, _, dx, _, _, rfl, hp, ec.c, ec.n1, edF_r _ _ _ _, rt, _, rfl, SqT.of (Hd.le _ _ tw.t), rfl, _, _, rfl, _, _, rfl, rfl, ?_⟩
    refine ⟨by decide, fun f hf => ?_⟩
    have k1 : Ke H (upd H f (.lst [])) := Ke.new hf
    have hf1 : (upd H f (.lst [])) f = some (.lst []) := upd_same
    generalize hH1 : upd H f (.lst []) = H1 at k1 hf1 ⊢
    have hl1 := k1.at hld
    have nlf : ld ≠ f := ne_of_none hld hf
    have npl : p ≠ ld := ne_of hp hld (fun z => nomatch z)
    have npf : p ≠ f := ne_of_none hp hf
    have twk : ∀ {H'}, Ks (fun a => a = ld) H H' → TwoRd T.a_Reader H' rt x1 x2 o1 o2 ks1 ks2 := fun kk => (tw.ke (Hd.ke (kk.mono fun a z => .inr (.inr z)))).ke (Le.ke Hd.le)
    refine ⟨ld, .dT kvs, hl1, True.intro, fun od => ?_⟩
    have kl : Ks (fun a => a = ld) H1 (upd H1 ld (.frz od (.dT kvs))) := lock_ks hl1 (fun _ z => nomatch z)
    refine ⟨_, rfl, p, _, dx, _, _, rfl, by rw [upd_ne npl]; exact k1.at hp, ec.c, ec.n4, edF_l _ _ _ _, ld, od, kvs, rfl, upd_same, ?_⟩
    refine for_it walk_itemsT (fun n σ H' => (∃ s4 s5 s6, σ = [some (.ref p), some (.ref x1), some (.ref x2), some (.ref f), s4, s5, s6]) ∧ Ks (fun a => a = ld) H H' ∧ H' ld = some (.frz od (.dT kvs)) ∧ ∃ ws, H' f = some (.lst ws) ∧ Paired (DayR H') ws (partsM o1 o2 ks1 ks2 m (lay.take n)))
      ⟨⟨_, _, _, rfl⟩, k1.ks.trans kl, upd_same, [], by rw [upd_ne nlf.symm]; exact hf1, .nil⟩ (fun n σ H' _ q => q.2.2.1) ?_ ?_
    · rintro n x σ H2 H2' hn ⟨⟨s4, s5, s6, rfl⟩, k2, hl2, ws, hf2, pw⟩ ⟨t, key, v, q, hkv, hq, rfl, ht, rfl⟩
      obtain ⟨y, hy, ekey, ssv⟩ := pgetL pl hkv
      obtain ⟨i, j, ey, ni, nj⟩ := hl y (List.mem_of_getElem? hy)
      have ek : key.map kV = [.int i, .int j] := by
        have e2 : key = keyI y.1 := ekey
        rw [e2, keyI_kV, ey]; rfl
      rw [ek] at hq
      have k3 : Ke H2 (upd H2 t (.tup [.ref q, v])) := Ke.new ht
      have htt : (upd H2 t (.tup [.ref q, v])) t = some (.tup [.ref q, v]) := upd_same
      generalize hH3 : upd H2 t (.tup [.ref q, v]) = H3 at k3 htt ⊢
      have hf3 := k3.at hf2
      have k03 : Ks (fun a => a = ld) H H3 := k2.trans k3.ks
      have hp3 : H3 p = some (.ins T.a_Editions dx (edF (.ref rt) (.int m) (.ref md) (.ref ld))) := k03.keep _ _ npl hp
      have lpn : (partsM o1 o2 ks1 ks2 m (lay.take n)).length ≤ 10000 * 63 := by
        have h1 := parts_len (o1 := o1) (o2 := o2) (ks1 := ks1) (ks2 := ks2) (m := m) (lay := lay.take n)
        rw [List.length_take] at h1
        exact Nat.le_trans h1 (Nat.mul_le_mul (by omega) (by omega))
      have pw3 : Paired (DayR H3) ws (partsM o1 o2 ks1 ks2 m (lay.take n)) := pimp (fun v x r => DayR.stb _ _ v x k3.tx r) pw
      refine ⟨t, _, rfl, SqT.of htt, rfl, _, _, rfl, _, _, rfl, rfl, ?_⟩
      refine ⟨_, rfl, p, _, dx, _, _, rfl, hp3, ec.c, ec.n2, edF_m _ _ _ _, m, rfl, by omega, by omega, for_range (fun l σ H' => (∃ s6, σ = [some (.ref p), some (.ref x1), some (.ref x2), some (.ref f), some (.ref q), some v, s6]) ∧ Ks (fun a => a = ld) H H' ∧ H' ld = some (.frz od (.dT kvs)) ∧ Tx H3 H' ∧ ∃ ws, H' f = some (.lst ws) ∧ Paired (DayR H') ws (partsM o1 o2 ks1 ks2 m (lay.take n) ++ partsX o1 o2 ks1 ks2 y l))
        ⟨⟨_, rfl⟩, k03, k3.at hl2, .refl, ws, hf3, by unfold partsX; simpa using pw3⟩ ?_ ?_⟩
      · rintro l σ H4 hlm ⟨⟨s6, rfl⟩, k4, hl4, tx4, ws4, hf4, pw4⟩
        have tw4 := twk k4
        have hq4 : H4 q = some (.tup [.int i, .int j]) := tx4.tup _ _ (k3.at hq)
        obtain ⟨d1, tl1, sl1, kl1, _, _, _, hx1, _⟩ := tw4.a.ex
        obtain ⟨d2, tl2, sl2, kl2, _, _, _, hx2, _⟩ := tw4.b.ex
        refine ⟨_, rfl, x1, d1, _, rfl, hx1, rdF_no _ _ _ (by decide +kernel) (by decide +kernel) (by decide +kernel), _, rfl, q, _, 0, _, rfl, rfl, SqT.of hq4, rfl, _, rfl, x1, o1, ks1, i, _, rfl, tw4.a, ni, ?_⟩
        refine ⟨_, rfl, x2, d2, _, rfl, hx2, rdF_no _ _ _ (by decide +kernel) (by decide +kernel) (by decide +kernel), _, rfl, q, _, 1, _, rfl, rfl, SqT.of hq4, rfl, _, rfl, x2, o2, ks2, j, _, rfl, tw4.b, nj, rfl, _, rfl, ?_⟩
        have e1 : y.1.getD 0 0 = i := by rw [ey]; rfl
        have e2 : y.1.getD 1 0 = j := by rw [ey]; rfl
        rw [partsX_succ, e1, e2, Int.zero_add]
        by_cases c : closesM o1 ks1 i (l : Int) = closesM o2 ks2 j (l : Int)
        · rw [if_pos c, List.append_nil]
          exact ifNT (by rw [c]) ⟨⟨_, rfl⟩, k4, hl4, tx4, ws4, hf4, pw4⟩
        · rw [if_neg c]
          refine ifNF (fun z => c (by injection z)) ?_
          have lw := plen pw4
          have lx := partsX_len (o1 := o1) (o2 := o2) (ks1 := ks1) (ks2 := ks2) (x := y) (n := l)
          rw [List.length_append] at lw
          refine ⟨_, rfl, .inl ⟨rfl, _, SqL.of hf4⟩, _, rfl, _, rfl, (by show 2 ≤ sizeLine; decide), fun t' ht' => ⟨f, ws4, _, rfl, rfl, (Ke.new ht').at hf4, by rw [sizeLine_eq]; omega, ?_⟩⟩
          have k5 : Ke H4 (upd H4 t' (.tup [v, .int (l : Int)])) := Ke.new ht'
          have tx5 := snoc_tx (ws := ws4 ++ [.ref t']) k5.tx hf4
          have nft : t' ≠ f := (ne_of_none hf4 ht').symm
          have ss4 : SS (upd (upd H4 t' (.tup [v, .int (l : Int)])) f (.lst (ws4 ++ [.ref t']))) v y.2 := SS.stb _ _ _ _ (k2.tx.trans (k3.tx.trans (tx4.trans tx5))) ssv
          refine ⟨⟨_, rfl⟩, (k4.trans k5.ks).mutNew hf, by rw [upd_ne nlf]; exact k5.at hl4, tx4.trans tx5, _, upd_same, ?_⟩
          rw [← List.append_assoc]
          exact papp (pimp (fun v x r => DayR.stb _ _ v x tx5 r) pw4) (.cons ⟨t', v, rfl, by rw [upd_ne nft, upd_same], ss4⟩ .nil)
      · rintro σ H4 ⟨⟨s6, rfl⟩, k4, hl4, tx4, ws4, hf4, pw4⟩
        exact ⟨⟨_, _, _, rfl⟩, k4, hl4, ws4, hf4, by rw [parts_snoc hy]; exact pw4⟩
    · rintro σ H2 ⟨⟨s4, s5, s6, rfl⟩, k2, hl2, ws, hf2, pw⟩
      refine ⟨hl2, ?_⟩
      have k3 : Ke H (upd H2 ld (.dT kvs)) := lock_ke hld (fun _ z => nomatch z) k2
      have hf3 : (upd H2 ld (.dT kvs)) f = some (.lst ws) := by rw [upd_ne nlf.symm]; exact hf2
      rw [plen pl, List.take_length] at pw
      have pw3 : Paired (DayR (upd H2 ld (.dT kvs))) ws (partsM o1 o2 ks1 ks2 m lay) := pimp (fun v x r => DayR.stb _ _ v x (put_tx hl2 (fun _ z => nomatch z)) r) pw
      have lw := plen pw3
      refine ⟨_, rfl, .ref f, ws.length, rfl, .inl ⟨_, SqL.of hf3, rfl⟩, _, _, rfl, rfl, _, rfl, ite2 (fun c => ?_) (fun c => ?_)⟩
      · have c' : 0 < ws.length := by have := of_decide_eq_true c; omega
        cases e0 : partsM o1 o2 ks1 ks2 m lay with
        | nil => rw [e0] at lw; simp at lw; rw [lw] at c'; simp at c'
        | cons d0 ds =>
          rw [e0] at pw3
          exact ⟨_, rfl, f, ws, Day, DayR _, encDay, d0, ds, rfl, ⟨SqL.of hf3, pw3⟩, fun v b r => DayR.enc K _ v b r, ⟨allalike_D _, Nat.le_trans (depths_D _) (by decide)⟩, fun v b hb rv e => (k _ k3).2 v d0 ds b e0 hb e rv⟩
      · refine (k _ k3).1 (List.length_eq_zero_iff.mp ?_)
        have : ¬ 0 < ws.length := fun z => c (decide_eq_true (by omega))
        omega
end
end Fd
set_option Elab.async false
set_option linter.all false
set_option maxRecDepth 100000
set_option maxHeartbeats 4000000
/-! The order of rows of steps, and of days. -/
namespace Fd
open PySem PySem.Spec PyProof.Rows L2 PySem.W
abbrev Wrd : Type := List (List Int)
def wlt : Wrd → Wrd → Bool
  | [], [] => false
  | [], _ :: _ => true
  | _ :: _, [] => false
  | x :: xs, y :: ys => if x = y then wlt xs ys else decide (x < y)
theorem tri (x y : List Int) : x < y ∨ x = y ∨ y < x := by
  rcases List.le_total x y with h | h
  · rcases List.le_iff_lt_or_eq.mp h with z | z
    · exact .inl z
    · exact .inr (.inl z)
  · rcases List.le_iff_lt_or_eq.mp h with z | z
    · exact .inr (.inr z)
    · exact .inr (.inl z.symm)
theorem irr (x : List Int) : ¬ x < x := List.lt_irrefl x
theorem wlt_irr : ∀ a : Wrd, wlt a a = false
  | [] => rfl
  | x :: a => by show (if x = x then wlt a a else _) = false; rw [if_pos rfl]; exact wlt_irr a
theorem wlt_tri : ∀ a b : Wrd, wlt a b = true ∨ a = b ∨ wlt b a = true
  | [], [] => .inr (.inl rfl)
  | [], _ :: _ => .inl rfl
  | _ :: _, [] => .inr (.inr rfl)
  | x :: a, y :: b => by
    show (if x = y then wlt a b else decide (x < y)) = true ∨ _ ∨ (if y = x then wlt b a else decide (y < x)) = true
    by_cases c : x = y
    · subst c
      rw [if_pos rfl, if_pos rfl]
      rcases wlt_tri a b with h | h | h
      · exact .inl h
      · exact .inr (.inl (by rw [h]))
      · exact .inr (.inr h)
    · rw [if_neg c, if_neg (fun z => c z.symm)]
      rcases tri x y with h | h | h
      · exact .inl (decide_eq_true h)
      · exact absurd h c
      · exact .inr (.inr (decide_eq_true h))
theorem wlt_trans : ∀ a b c : Wrd, wlt a b = true → wlt b c = true → wlt a c = true
  | [], _, [], h1, h2 => by
    rename_i b
    cases b with
    | nil => cases h1
    | cons => cases h2
  | [], _, _ :: _, _, _ => rfl
  | _ :: _, [], _, h, _ => by cases h
  | _ :: _, _ :: _, [], _, h => by cases h
  | x :: a, y :: b, z :: c, h1, h2 => by
    have h1' : (if x = y then wlt a b else decide (x < y)) = true := h1
    have h2' : (if y = z then wlt b c else decide (y < z)) = true := h2
    show (if x = z then wlt a c else decide (x < z)) = true
    by_cases e1 : x = y
    · subst e1
      rw [if_pos rfl] at h1'
      by_cases e2 : x = z
      · rw [if_pos e2] at h2' ⊢; exact wlt_trans a b c h1' h2'
      · rw [if_neg e2] at h2' ⊢; exact h2'
    · rw [if_neg e1] at h1'
      have l1 := of_decide_eq_true h1'
      by_cases e2 : y = z
      · subst e2
        rw [if_neg e1]; exact h1'
      · rw [if_neg e2] at h2'
        have l2 := of_decide_eq_true h2'
        have l3 : x < z := List.lt_trans l1 l2
        rw [if_neg (fun e => by subst e; exact irr _ l3)]
        exact decide_eq_true l3
/-- b is not ahead of a, c not of b -/
theorem wle_trans {a b c : Wrd} (h1 : wlt b a = false) (h2 : wlt c b = false) : wlt c a = false := by
  refine Bool.eq_false_iff.mpr fun h => ?_
  rcases wlt_tri a b with z | z | z
  · rw [wlt_trans c a b h z] at h2; cases h2
  · subst z; rw [h] at h2; cases h2
  · rw [z] at h1; cases h1
theorem wle_lt {a b c : Wrd} (h1 : wlt b a = false) (h2 : wlt c a = true) : wlt c b = true := by
  rcases wlt_tri c b with z | z | z
  · exact z
  · subst z; rw [h1] at h2; cases h2
  · rw [wlt_trans b c a z h2] at h1; cases h1
theorem wlt_asym {a b : Wrd} (h : wlt a b = true) : wlt b a = false := by
  refine Bool.eq_false_iff.mpr fun z => ?_
  have := wlt_trans a b a h z
  rw [wlt_irr] at this; cases this
theorem wlt_snoc : ∀ (a b : Wrd) (x y : List Int), a.length = b.length → wlt (a ++ [x]) (b ++ [y]) = if a = b then decide (x < y) else wlt a b
  | [], [], x, y, _ => by
    show (if x = y then false else decide (x < y)) = _
    rw [if_pos rfl]
    by_cases c : x = y
    · subst c; rw [if_pos rfl, decide_eq_false (irr x)]
    · rw [if_neg c]
  | p :: a, q :: b, x, y, h => by
    have ih := wlt_snoc a b x y (by simpa using h)
    show (if p = q then wlt (a ++ [x]) (b ++ [y]) else decide (p < q)) = if p :: a = q :: b then decide (x < y) else if p = q then wlt a b else decide (p < q)
    by_cases c : p = q
    · subst c
      rw [if_pos rfl, if_pos rfl, ih]
      by_cases d : a = b
      · rw [if_pos d, if_pos (by rw [d])]
      · rw [if_neg d, if_neg (fun z => d (by injection z))]
    · rw [if_neg c, if_neg c, if_neg (fun z => c (by injection z))]
theorem wle_snoc {a b : Wrd} {x : List Int} (h : a.length = b.length) (k : wlt a b = false) : wlt (a ++ [x]) (b ++ [x]) = false := by
  rw [wlt_snoc a b x x h]
  split
  · exact decide_eq_false (irr x)
  · exact k
/-! ### data -/
theorem alike_tI (a b : List Int) : alike (tI a) (tI b) = true := by
  show alike (.tuple (a.map .int)) (.tuple (b.map .int)) = true
  rw [alike]; exact alike_ints a b
theorem lt_tI (a b : List Int) : dataLt (tI a) (tI b) = decide (a < b) := by
  show dataLt (.tuple (a.map .int)) (.tuple (b.map .int)) = _
  rw [dataLt_tuple]
  exact dataLt_ints a b
theorem eqv_tI' (a b : List Int) : PyData.eqv (tI a) (tI b) = decide (a = b) := by
  show PyData.eqv (.tuple (a.map .int)) (.tuple (b.map .int)) = _
  rw [PyData.eqv]
  exact ked_eqvAll a b
theorem lt_Ss : ∀ a b : Wrd, PyProof.Rows.lexLt itemOrd (keyToksAll (a.map tI)) (keyToksAll (b.map tI)) = wlt a b
  | [], [] => lex_irrefl _
  | [], y :: b => by
    rw [List.map_cons, toks_all_cons]
    simp only [List.map_nil, keyToksAll]
    rw [lex_diff (O := itemOrd) (by simp)]; rfl
  | x :: a, [] => by
    rw [List.map_cons, toks_all_cons]
    simp only [List.map_nil, keyToksAll]
    rw [lex_diff (O := itemOrd) (by simp)]; rfl
  | x :: a, y :: b => by
    rw [List.map_cons, List.map_cons]
    show _ = if x = y then wlt a b else decide (x < y)
    by_cases c : x = y
    · rw [if_pos c, dataLt_all_yes (alike_tI x y) (by rw [eqv_tI']; exact decide_eq_true c)]
      exact lt_Ss a b
    · rw [if_neg c, dataLt_all_no (alike_tI x y) (by rw [eqv_tI']; exact decide_eq_false c)]
      exact lt_tI x y
theorem lt_S (a b : Wrd) : dataLt (encS a) (encS b) = wlt a b := by
  show dataLt (.tuple (a.map tI)) (.tuple (b.map tI)) = _
  rw [dataLt_tuple]
  exact lt_Ss a b
theorem alike_SS (a b : Wrd) : alike (encS a) (encS b) = true := by
  show alike (.tuple (a.map tI)) (.tuple (b.map tI)) = true
  rw [alike]; exact alike_S a b
theorem eqv_Ss : ∀ a b : Wrd, PyData.eqvAll (a.map tI) (b.map tI) = decide (a = b)
  | [], [] => by simp [PyData.eqvAll]
  | [], y :: b => by simp [PyData.eqvAll]
  | x :: a, [] => by simp [PyData.eqvAll]
  | x :: a, y :: b => by
    rw [List.map_cons, List.map_cons, eqv_all_cons, eqv_tI', eqv_Ss a b]
    by_cases c : x = y
    · by_cases d : a = b
      · simp [c, d]
      · simp [c, d]
    · simp [c]
theorem eqv_S (a b : Wrd) : PyData.eqv (encS a) (encS b) = decide (a = b) := by
  show PyData.eqv (.tuple (a.map tI)) (.tuple (b.map tI)) = _
  rw [PyData.eqv]; exact eqv_Ss a b
/-- one day ahead of another -/
def dlt (x y : Day) : Bool := if x.1 = y.1 then decide (x.2 < y.2) else wlt x.1 y.1
theorem lt_D (x y : Day) : dataLt (encDay x) (encDay y) = dlt x y := by
  show dataLt (.tuple [encS x.1, .int x.2]) (.tuple [encS y.1, .int y.2]) = _
  rw [dataLt_tuple]
  unfold dlt
  by_cases c : x.1 = y.1
  · rw [if_pos c, dataLt_all_yes (alike_SS _ _) (by rw [eqv_S]; exact decide_eq_true c)]
    by_cases d : x.2 = y.2
    · rw [d, decide_eq_false (Int.lt_irrefl _)]; exact lex_irrefl _
    · rw [dataLt_all_no (by simp [alike]) (by simp [PyData.eqv, d]), dataLt_int]
  · rw [if_neg c, dataLt_all_no (alike_SS _ _) (by rw [eqv_S]; exact decide_eq_false c)]
    exact lt_S _ _
theorem dlt_tri (x y : Day) : dlt x y = true ∨ x = y ∨ dlt y x = true := by
  unfold dlt
  by_cases c : x.1 = y.1
  · rw [if_pos c, if_pos c.symm]
    rcases Int.lt_trichotomy x.2 y.2 with h | h | h
    · exact .inl (decide_eq_true h)
    · exact .inr (.inl (Prod.ext c h))
    · exact .inr (.inr (decide_eq_true h))
  · rw [if_neg c, if_neg (fun z => c z.symm)]
    rcases wlt_tri x.1 y.1 with h | h | h
    · exact .inl h
    · exact absurd h c
    · exact .inr (.inr h)
theorem dlt_trans {x y z : Day} (h1 : dlt x y = true) (h2 : dlt y z = true) : dlt x z = true := by
  unfold dlt at h1 h2 ⊢
  by_cases c : x.1 = y.1
  · rw [if_pos c] at h1
    by_cases d : y.1 = z.1
    · rw [if_pos d] at h2
      rw [if_pos (c.trans d)]
      have := of_decide_eq_true h1
      have := of_decide_eq_true h2
      exact decide_eq_true (by omega)
    · rw [if_neg d] at h2
      rw [if_neg (by rw [c]; exact d), c]; exact h2
  · rw [if_neg c] at h1
    by_cases d : y.1 = z.1
    · rw [if_neg (by rw [← d]; exact c), ← d]; exact h1
    · rw [if_neg d] at h2
      have h := wlt_trans _ _ _ h1 h2
      rw [if_neg (fun e => by rw [e] at h; rw [wlt_irr] at h; cases h)]
      exact h
/-- the least of some days -/
theorem minD_least : ∀ (ds : List Day) (d0 d : Day), encDay d = minD (encDay d0) (ds.map encDay) → (∀ e ∈ d0 :: ds, dlt e d = false) := by
  intro ds
  induction ds with
  | nil =>
    intro d0 d h e he
    rw [List.mem_singleton.mp he]
    have h' : encDay d = encDay d0 := h
    rw [← lt_D, ← h', lt_D]
    unfold dlt
    rw [if_pos rfl]; exact decide_eq_false (Int.lt_irrefl _)
  | cons y ds ih =>
    intro d0 d h e he
    have h' : encDay d = minD (if dataLt (encDay y) (encDay d0) = true then encDay y else encDay d0) (ds.map encDay) := h
    rw [lt_D] at h'
    by_cases c : dlt y d0 = true
    · rw [if_pos c] at h'
      have key := ih y d h'
      rcases List.mem_cons.mp he with rfl | he
      · refine Bool.eq_false_iff.mpr fun z => ?_
        have := dlt_trans c z
        rw [key y (by simp)] at this; cases this
      · exact key e he
    · rw [if_neg c] at h'
      have key := ih d0 d h'
      rcases List.mem_cons.mp he with rfl | he
      · exact key _ (by simp)
      · rcases List.mem_cons.mp he with rfl | he
        · refine Bool.eq_false_iff.mpr fun z => ?_
          rcases dlt_tri e d0 with q | q | q
          · exact c q
          · rw [q] at z; rw [key d0 (by simp)] at z; cases z
          · have := dlt_trans q z
            rw [key d0 (by simp)] at this; cases this
        · exact key e (by simp [he])
end Fd
set_option Elab.async false
set_option linter.all false
set_option maxRecDepth 100000
set_option maxHeartbeats 4000000
/-! Going on layer by layer: the least word that parts. -/
namespace Fd
section
variable {κ : Type} (k0 : κ) (nx : κ → List Int → κ) (St : List (List Int)) (dead : κ → Prop) (P : κ → Int → Prop)
/-- the key behind a word; words of steps -/
def wk (w : Wrd) : κ := w.foldl nx k0
def Wd (w : Wrd) : Prop := ∀ st ∈ w, st ∈ St
structure BF (n : Nat) (met : κ → Prop) (lay : List (κ × Wrd)) : Prop where
  nd : (lay.map (·.1)).Nodup
  ly : ∀ x ∈ lay, x.2.length = n ∧ Wd St x.2 ∧ wk k0 nx x.2 = x.1 ∧ ∀ w, Wd St w → w.length = n → wk k0 nx w = x.1 → wlt w x.2 = false
  cov : ∀ w, Wd St w → w.length = n → dead (wk k0 nx w) ∨ (∃ x ∈ lay, x.1 = wk k0 nx w) ∨ ∃ w', Wd St w' ∧ w'.length < n ∧ wk k0 nx w' = wk k0 nx w
  mt : ∀ k, met k ↔ ∃ w, Wd St w ∧ w.length ≤ n ∧ wk k0 nx w = k ∧ ¬ dead k
  np : ∀ w, Wd St w → w.length < n → ∀ last, ¬ P (wk k0 nx w) last
variable {k0 nx St dead P}
theorem wk_snoc (w : Wrd) (st : List Int) : wk k0 nx (w ++ [st]) = nx (wk k0 nx w) st := by unfold wk; rw [List.foldl_append]; rfl
theorem wk_app (w v : Wrd) : wk k0 nx (w ++ v) = v.foldl nx (wk k0 nx w) := by unfold wk; rw [List.foldl_append]
theorem wd_snoc {w : Wrd} {st : List Int} (h : Wd St w) (hs : st ∈ St) : Wd St (w ++ [st]) := fun x hx => by
  rcases List.mem_append.mp hx with z | z
  · exact h x z
  · rw [List.mem_singleton.mp z]; exact hs
theorem wd_pre {w v : Wrd} (h : Wd St (w ++ v)) : Wd St w ∧ Wd St v := ⟨fun x hx => h x (List.mem_append_left _ hx), fun x hx => h x (List.mem_append_right _ hx)⟩
theorem split_last {w : Wrd} {n : Nat} (h : w.length = n + 1) : ∃ u st, w = u ++ [st] ∧ u.length = n := by
  refine ⟨w.dropLast, w.getLast (by intro z; rw [z] at h; cases h), (List.dropLast_concat_getLast _).symm, by rw [List.length_dropLast]; omega⟩
theorem BF.start (h0 : ¬ dead k0) {met : κ → Prop} (hm : ∀ k, met k ↔ k = k0) : BF k0 nx St dead P 0 met [(k0, [])] where
  nd := by simp
  ly := fun x hx => by
    rw [List.mem_singleton.mp hx]
    exact ⟨rfl, (fun st h => nomatch h), rfl, fun w _ hl _ => by rw [List.length_eq_zero_iff.mp hl]; rfl⟩
  cov := fun w _ hl => by
    rw [List.length_eq_zero_iff.mp hl]
    exact .inr (.inl ⟨_, List.mem_singleton.mpr rfl, rfl⟩)
  mt := fun k => by
    rw [hm]
    constructor
    · rintro rfl; exact ⟨[], (fun st h => nomatch h), Nat.le_refl _, rfl, h0⟩
    · rintro ⟨w, _, hl, e, _⟩
      rw [List.length_eq_zero_iff.mp (Nat.le_zero.mp hl)] at e
      exact e.symm
  np := fun w _ h => by omega
theorem BF.step {n : Nat} {met met' : κ → Prop} {lay lay' : List (κ × Wrd)} (b : BF k0 nx St dead P n met lay) (hd : ∀ k st, st ∈ St → dead k → dead (nx k st)) (np' : ∀ x ∈ lay, ∀ last, ¬ P x.1 last) (Pd : ∀ k last, dead k → ¬ P k last)
    (nd' : (lay'.map (·.1)).Nodup) (ok : ∀ x ∈ lay', ¬ met x.1 ∧ ¬ dead x.1 ∧ ∃ y ∈ lay, ∃ st ∈ St, x = (nx y.1 st, y.2 ++ [st])) (cp : ∀ y ∈ lay, ∀ st ∈ St, ¬ met (nx y.1 st) → ¬ dead (nx y.1 st) → ∃ ss, (nx y.1 st, ss) ∈ lay' ∧ wlt (y.2 ++ [st]) ss = false)
    (hm : ∀ k, met' k ↔ met k ∨ ∃ x ∈ lay', x.1 = k) : BF k0 nx St dead P (n + 1) met' lay' := by
  have word : ∀ x ∈ lay', x.2.length = n + 1 ∧ Wd St x.2 ∧ wk k0 nx x.2 = x.1 := fun x hx => by
    obtain ⟨_, _, y, hy, st, hst, rfl⟩ := ok x hx
    obtain ⟨l, wd, e, _⟩ := b.ly y hy
    exact ⟨by show (y.2 ++ [st]).length = _; rw [List.length_append, l]; rfl, wd_snoc wd hst, by show wk k0 nx (y.2 ++ [st]) = nx y.1 st; rw [wk_snoc, e]⟩
  have cov' : ∀ w, Wd St w → w.length = n + 1 → dead (wk k0 nx w) ∨ (∃ x ∈ lay', x.1 = wk k0 nx w) ∨ ∃ w', Wd St w' ∧ w'.length < n + 1 ∧ wk k0 nx w' = wk k0 nx w := fun w wd hl => by
    obtain ⟨u, st, rfl, hu⟩ := split_last hl
    have wu := (wd_pre wd).1
    have hst : st ∈ St := wd st (by simp)
    rw [wk_snoc]
    rcases b.cov u wu hu with z | ⟨y, hy, ey⟩ | ⟨w', q1, q2, q3⟩
    · exact .inl (hd _ _ hst z)
    · rw [← ey]
      by_cases c : met (nx y.1 st)
      · obtain ⟨w', q1, q2, q3, _⟩ := (b.mt _).mp c
        exact .inr (.inr ⟨w', q1, by omega, q3⟩)
      · by_cases d : dead (nx y.1 st)
        · exact .inl d
        · obtain ⟨ss, hs, _⟩ := cp y hy st hst c d
          exact .inr (.inl ⟨_, hs, rfl⟩)
    · exact .inr (.inr ⟨w' ++ [st], wd_snoc q1 hst, by rw [List.length_append]; simp; omega, by rw [wk_snoc, q3]⟩)
  have mt' : ∀ k, met' k ↔ ∃ w, Wd St w ∧ w.length ≤ n + 1 ∧ wk k0 nx w = k ∧ ¬ dead k := fun k => by
    rw [hm]
    constructor
    · rintro (z | ⟨x, hx, rfl⟩)
      · obtain ⟨w, q1, q2, q3, q4⟩ := (b.mt k).mp z
        exact ⟨w, q1, by omega, q3, q4⟩
      · obtain ⟨l, wd, e⟩ := word x hx
        exact ⟨x.2, wd, by omega, e, (ok x hx).2.1⟩
    · rintro ⟨w, q1, q2, rfl, q4⟩
      by_cases c : w.length ≤ n
      · exact .inl ((b.mt _).mpr ⟨w, q1, c, rfl, q4⟩)
      · rcases cov' w q1 (by omega) with z | z | ⟨w', r1, r2, r3⟩
        · exact absurd z q4
        · exact .inr z
        · exact .inl ((b.mt _).mpr ⟨w', r1, by omega, r3, q4⟩)
  refine ⟨nd', fun x hx => ?_, cov', mt', fun w wd hl last => ?_⟩
  · obtain ⟨l, wd, e⟩ := word x hx
    refine ⟨l, wd, e, fun w wdw hl ew => ?_⟩
    obtain ⟨nm, ndx, _⟩ := ok x hx
    obtain ⟨u, st, rfl, hu⟩ := split_last hl
    have wu := (wd_pre wdw).1
    have hst : st ∈ St := wdw st (by simp)
    rw [wk_snoc] at ew
    rcases b.cov u wu hu with z | ⟨y, hy, ey⟩ | ⟨w', q1, q2, q3⟩
    · exact absurd (by rw [← ew]; exact hd _ _ hst z) ndx
    · obtain ⟨ly1, _, _, ly4⟩ := b.ly y hy
      rw [← ey] at ew
      obtain ⟨ss, hs, h2⟩ := cp y hy st hst (by rw [ew]; exact nm) (by rw [ew]; exact ndx)
      rw [ew] at hs
      have e2 : ss = x.2 := by
        have h3 : ∀ {l : List (κ × Wrd)}, (l.map (·.1)).Nodup → (x.1, ss) ∈ l → x ∈ l → ss = x.2 := by
          intro l
          induction l with
          | nil => intro _ h; cases h
          | cons p l ih =>
            intro hn h1 h2
            obtain ⟨hn1, hn2⟩ := List.nodup_cons.mp hn
            rcases List.mem_cons.mp h1 with z1 | z1
            · rcases List.mem_cons.mp h2 with z2 | z2
              · rw [← z1] at z2; rw [z2]
              · exact absurd (List.mem_map.mpr ⟨x, z2, by rw [← z1]⟩) hn1
            · rcases List.mem_cons.mp h2 with z2 | z2
              · exact absurd (List.mem_map.mpr ⟨_, z1, by rw [← z2]⟩) hn1
              · exact ih hn2 z1 z2
        exact h3 nd' hs hx
      rw [e2] at h2
      exact wle_trans h2 (wle_snoc (by omega) (ly4 u wu hu ey.symm))
    · refine absurd ((b.mt _).mpr ⟨w' ++ [st], wd_snoc q1 hst, by rw [List.length_append]; simp; omega, by rw [wk_snoc, q3, ew], ndx⟩) nm
  · by_cases c : w.length < n
    · exact b.np w wd c last
    · rcases b.cov w wd (by omega) with z | ⟨x, hx, ex⟩ | ⟨w', q1, q2, q3⟩
      · exact Pd _ _ z
      · rw [← ex]; exact np' x hx last
      · rw [← q3]; exact b.np w' q1 q2 last
/-- no word parts -/
theorem BF.end_none {n : Nat} {met : κ → Prop} (b : BF k0 nx St dead P n met []) (hd : ∀ k st, st ∈ St → dead k → dead (nx k st)) (Pd : ∀ k last, dead k → ¬ P k last) : ∀ w, Wd St w → ∀ last, ¬ P (wk k0 nx w) last := by
  have dd : ∀ (v : Wrd) (k : κ), Wd St v → dead k → dead (v.foldl nx k) := by
    intro v
    induction v with
    | nil => intro k _ h; exact h
    | cons st v ih => intro k hv h; exact ih _ (fun x hx => hv x (by simp [hx])) (hd _ _ (hv st (by simp)) h)
  have key : ∀ m : Nat, ∀ w : Wrd, w.length ≤ m → Wd St w → ∀ last, ¬ P (wk k0 nx w) last := by
    intro m
    induction m with
    | zero =>
      intro w hl wd last
      by_cases c : w.length < n
      · exact b.np w wd c last
      · rcases b.cov w wd (by omega) with z | ⟨x, hx, _⟩ | ⟨w', _, q2, _⟩
        · exact Pd _ _ z
        · cases hx
        · omega
    | succ m ih =>
      intro w hl wd last
      by_cases c : w.length < n
      · exact b.np w wd c last
      · have e : w = w.take n ++ w.drop n := (List.take_append_drop n w).symm
        have wp := wd_pre (w := w.take n) (v := w.drop n) (by rw [← e]; exact wd)
        have lt : (w.take n).length = n := by rw [List.length_take]; omega
        rcases b.cov _ wp.1 lt with z | ⟨x, hx, _⟩ | ⟨w', q1, q2, q3⟩
        · rw [e, wk_app]; exact Pd _ _ (dd _ _ wp.2 z)
        · cases hx
        · have h := ih (w' ++ w.drop n) (by rw [List.length_append, List.length_drop]; omega) (fun x hx => by
            rcases List.mem_append.mp hx with y | y
            · exact q1 x y
            · exact wp.2 x y) last
          rw [wk_app, q3, ← wk_app, ← e] at h
          exact h
  exact fun w wd => key w.length w (Nat.le_refl _) wd
/-- the least day that parts -/
theorem BF.end_some {n : Nat} {met : κ → Prop} {lay : List (κ × Wrd)} (b : BF k0 nx St dead P n met lay) (Pd : ∀ k last, dead k → ¬ P k last) {x : κ × Wrd} {l0 : Int} (hx : x ∈ lay) (hp : P x.1 l0) (least : ∀ y ∈ lay, ∀ last, P y.1 last → dlt (y.2, last) (x.2, l0) = false) :
    Wd St x.2 ∧ P (wk k0 nx x.2) l0 ∧ (∀ w, Wd St w → w.length < x.2.length → ∀ last, ¬ P (wk k0 nx w) last) ∧ ∀ w last, Wd St w → w.length = x.2.length → P (wk k0 nx w) last → dlt (w, last) (x.2, l0) = false := by
  obtain ⟨l, wd, e, _⟩ := b.ly x hx
  refine ⟨wd, by rw [e]; exact hp, fun w wdw hl => b.np w wdw (by omega), fun w last wdw hl hP => ?_⟩
  rcases b.cov w wdw (by omega) with z | ⟨y, hy, ey⟩ | ⟨w', q1, q2, q3⟩
  · exact absurd hP (Pd _ _ z)
  · have h1 := least y hy last (by rw [ey]; exact hP)
    obtain ⟨ly1, _, ly3, ly4⟩ := b.ly y hy
    have h2 := ly4 w wdw (by omega) ey.symm
    refine Bool.eq_false_iff.mpr fun q => ?_
    unfold dlt at q h1
    dsimp only at q h1
    by_cases c : y.2 = x.2
    · rw [if_pos c] at h1
      rw [c] at h2
      by_cases d : w = x.2
      · rw [if_pos d] at q; rw [q] at h1; cases h1
      · rw [if_neg d] at q; rw [q] at h2; cases h2
    · rw [if_neg c] at h1
      have h3 := wle_trans h1 h2
      by_cases d : w = x.2
      · rw [d] at h2
        rcases wlt_tri y.2 x.2 with z | z | z
        · rw [z] at h1; cases h1
        · exact c z
        · rw [z] at h2; cases h2
      · rw [if_neg d] at q; rw [q] at h3; cases h3
  · rw [← q3] at hP
    exact absurd hP (b.np w' q1 q2 last)
end
/-! ### two offices -/
noncomputable def setW (o : Ofc) (w : Wrd) : List Int := w.foldl (goalsM o) [0]
def closesS (o : Ofc) (s : List Int) (last : Int) : Bool := decide (last ∈ lastsM o s)
/-- a day parts two offices -/
def PartsW (o1 o2 : Ofc) (m : Int) (w : Wrd) (last : Int) : Prop := (0 ≤ last ∧ last < m) ∧ closesS o1 (setW o1 w) last ≠ closesS o2 (setW o2 w) last
/-- what is told of two offices: None, or the least day -/
def SD (o1 o2 : Ofc) (St : List (List Int)) (m : Int) : Option Day → Prop
  | none => ∀ w, Wd St w → ∀ last, ¬ PartsW o1 o2 m w last
  | some d => Wd St d.1 ∧ PartsW o1 o2 m d.1 d.2 ∧ (∀ w, Wd St w → w.length < d.1.length → ∀ last, ¬ PartsW o1 o2 m w last) ∧ ∀ w last, Wd St w → w.length = d.1.length → PartsW o1 o2 m w last → dlt (w, last) d = false
theorem SD.uniq {o1 o2 : Ofc} {St : List (List Int)} {m : Int} : ∀ {r r' : Option Day}, SD o1 o2 St m r → SD o1 o2 St m r' → r = r'
  | none, none, _, _ => rfl
  | none, some d, h, h' => absurd h'.2.1 (h _ h'.1 _)
  | some d, none, h, h' => absurd h.2.1 (h' _ h.1 _)
  | some d, some d', ⟨a1, a2, a3, a4⟩, ⟨b1, b2, b3, b4⟩ => by
    have el : d.1.length = d'.1.length := by
      rcases Nat.lt_trichotomy d.1.length d'.1.length with z | z | z
      · exact absurd a2 (b3 _ a1 z _)
      · exact z
      · exact absurd b2 (a3 _ b1 z _)
    have h1 := a4 _ _ b1 el.symm b2
    have h2 := b4 _ _ a1 el a2
    rcases dlt_tri d d' with z | z | z
    · have h2' : dlt d d' = false := h2
      rw [z] at h2'; cases h2'
    · rw [z]
    · have h1' : dlt d' d = false := h1
      rw [z] at h1'; cases h1'
theorem PartsW.symm {o1 o2 : Ofc} {m : Int} {w : Wrd} {last : Int} : PartsW o1 o2 m w last ↔ PartsW o2 o1 m w last := ⟨fun h => ⟨h.1, fun z => h.2 z.symm⟩, fun h => ⟨h.1, fun z => h.2 z.symm⟩⟩
theorem SD.symm {o1 o2 : Ofc} {St : List (List Int)} {m : Int} {r : Option Day} (h : SD o1 o2 St m r) : SD o2 o1 St m r := by
  cases r with
  | none => exact fun w hw last z => h w hw last (PartsW.symm.mp z)
  | some d => exact ⟨h.1, PartsW.symm.mp h.2.1, fun w hw hl last z => h.2.2.1 w hw hl last (PartsW.symm.mp z), fun w last hw hl z => h.2.2.2 w last hw hl (PartsW.symm.mp z)⟩
theorem SD.self {o : Ofc} {St : List (List Int)} {m : Int} : SD o o St m none := fun w _ last z => z.2 rfl
end Fd
set_option Elab.async false
set_option linter.all false
set_option maxRecDepth 100000
set_option maxHeartbeats 4000000
namespace Fd
open PySem PySem.Spec PyProof.Rows L2 RZ PySem.W
theorem putL_new {lat : Lay} {g : List Int} {ss : Wrd} : (g, ss) ∈ putL lat g ss := by
  unfold putL
  by_cases c : g ∈ lat.map (·.1)
  · rw [if_pos c]
    obtain ⟨x, hx, e⟩ := List.mem_map.mp c
    exact List.mem_map.mpr ⟨x, hx, if_pos e⟩
  · rw [if_neg c]; exact List.mem_append_right _ (List.mem_singleton.mpr rfl)
theorem putL_old {lat : Lay} {g : List Int} {ss : Wrd} {x : List Int × Wrd} (h : x ∈ lat) (n : x.1 ≠ g) : x ∈ putL lat g ss := by
  unfold putL
  by_cases c : g ∈ lat.map (·.1)
  · rw [if_pos c]; exact List.mem_map.mpr ⟨x, h, if_neg n⟩
  · rw [if_neg c]; exact List.mem_append_left _ h
theorem key_uniq {lat : Lay} {g : List Int} {ss ss' : Wrd} (nd : (lat.map (·.1)).Nodup) (h : (g, ss) ∈ lat) (h' : (g, ss') ∈ lat) : ss = ss' := by
  induction lat with
  | nil => cases h
  | cons p l ih =>
    obtain ⟨hn1, hn2⟩ := List.nodup_cons.mp nd
    rcases List.mem_cons.mp h with z1 | z1
    · rcases List.mem_cons.mp h' with z2 | z2
      · rw [← z1] at z2; injection z2 with _ z2; exact z2.symm
      · exact absurd (List.mem_map.mpr ⟨_, z2, by rw [← z1]⟩) hn1
    · rcases List.mem_cons.mp h' with z2 | z2
      · exact absurd (List.mem_map.mpr ⟨_, z1, by rw [← z2]⟩) hn1
      · exact ih hn2 z1 z2
/-- the ways on that D tells have been looked at -/
def Seen (o1 o2 : Ofc) (ks1 ks2 : List (List Int)) (met : List (List Int)) (lat : Lay) (D : List Int × Wrd → List Int → Prop) : Prop := ∀ y st i j, D y st → y.1 = [i, j] → (Mv o1 ks1 i st ∨ Mv o2 ks2 j st) → [behindM o1 ks1 i st, behindM o2 ks2 j st] ∉ met →
  ∃ ss, ([behindM o1 ks1 i st, behindM o2 ks2 j st], ss) ∈ lat ∧ wlt (y.2 ++ [st]) ss = false
section
variable {o1 o2 : Ofc} {ks1 ks2 : List (List Int)} {met : List (List Int)} {lat : Lay} {D D' : List Int × Wrd → List Int → Prop}
theorem Seen.mono (x : Seen o1 o2 ks1 ks2 met lat D) (h : ∀ y st i j, D' y st → y.1 = [i, j] → (Mv o1 ks1 i st ∨ Mv o2 ks2 j st) → D y st) : Seen o1 o2 ks1 ks2 met lat D' := fun y st i j d e m n => x y st i j (h y st i j d e m) e m n
theorem Seen.put (x : Seen o1 o2 ks1 ks2 met lat D) {g : List Int} {ss : Wrd} (h : ∀ ss0, (g, ss0) ∈ lat → wlt ss ss0 = true) : Seen o1 o2 ks1 ks2 met (putL lat g ss) D := fun y st i j d e m n => by
  obtain ⟨s0, h0, h1⟩ := x y st i j d e m n
  by_cases c : [behindM o1 ks1 i st, behindM o2 ks2 j st] = g
  · rw [c] at h0 ⊢
    refine ⟨ss, putL_new, Bool.eq_false_iff.mpr fun z => ?_⟩
    rw [wlt_trans _ _ _ z (h s0 h0)] at h1; cases h1
  · exact ⟨s0, putL_old h0 c, h1⟩
theorem Seen.add (x : Seen o1 o2 ks1 ks2 met lat D) {y0 : List Int × Wrd} {st0 : List Int} {i0 j0 : Int} (e0 : y0.1 = [i0, j0]) (h : [behindM o1 ks1 i0 st0, behindM o2 ks2 j0 st0] ∉ met → ∃ ss, ([behindM o1 ks1 i0 st0, behindM o2 ks2 j0 st0], ss) ∈ lat ∧ wlt (y0.2 ++ [st0]) ss = false)
    (hD : ∀ y st, D' y st → D y st ∨ (y = y0 ∧ st = st0)) : Seen o1 o2 ks1 ks2 met lat D' := fun y st i j d e m n => by
  rcases hD y st d with z | ⟨rfl, rfl⟩
  · exact x y st i j z e m n
  · rw [e0] at e
    injection e with e1 e
    injection e with e2 _
    subst e1 e2
    exact h n
end
def sp_advanceX (C CR : Addr) : Sp := fun xs H Q _ => ∃ p md o1 o2 ks1 ks2 m met lay, xs = [.ref p] ∧ EdAt C CR H p md o1 o2 ks1 ks2 m met lay ∧ (Wf o1 ∧ Closed o1 ks1 ks1.length ∧ ks1.length ≤ 100) ∧ (Wf o2 ∧ Closed o2 ks2 ks2.length ∧ ks2.length ≤ 100) ∧
  (∀ x ∈ lay, PairN ks1 ks2 x.1 ∧ x.2.length < 100000) ∧ (∀ g ∈ met, PairN ks1 ks2 g) ∧
  ∀ met' lay' H', LatOk o1 o2 ks1 ks2 met lay lay' → Seen o1 o2 ks1 ks2 met lay' (fun y _ => y ∈ lay) → (∀ g, g ∈ met' ↔ g ∈ met ∨ g ∈ lay'.map (·.1)) → met'.Nodup → met'.length = met.length + lay'.length → Ks (fun a => a = p ∨ a = md) H H' → EdAt C CR H' p md o1 o2 ks1 ks2 m met' lay' → Q .non H'
section
variable {P : Program} {w : World} {K : PySem.W.Frag} {mg : Str → Option Value} {base : Heap} (T : Txt K mg)
include T
theorem ok_Editions_advanceX : FnOk P w K mg base CX0 2 T.a_Editions_advance T.d_Editions_advance P_Editions_advance (sp_advanceX T.a_Editions T.a_Reader) := by
  refine T.F_Editions_advance.ok sc_Editions_advance (fun vs H Q E h => ?_) (fun cdv A outer s H vs Q E hr h => ?_)
  · obtain ⟨p, md, o1, o2, ks1, ks2, m, met, lay, rfl, _⟩ := h; rfl
  · obtain ⟨p, md, o1, o2, ks1, ks2, m, met, lay, rfl, ed, ⟨wf1, cl1, l1⟩, ⟨wf2, cl2, l2⟩, hlay, hmet, k⟩ := h
    have hu := hu_of hr
    have ec := T.ec
    have rc := T.rc
    obtain ⟨dx, rt, x1, x2, ld, hp, tw, ⟨kvm, hmd, ekm, ndm⟩, ⟨kvs, hld, pl, ndl⟩, nml⟩ := ed.ex
    have lpl := plen pl
    refine ⟨_, (pss_cons (ps_asg (pe_fld (pv 0) rfl) (pg_tup rfl (pgs_cons (pg_name (i := 1) sc_Editions_advance.nd rfl (Or.inl rfl)) (pgs_cons (pg_name (i := 2) sc_Editions_advance.nd rfl (Or.inl rfl)) pgs_nil))))
  (pss_cons (ps_set (i := 3) sc_Editions_advance.nd rfl (Or.inl rfl) pe_dnewT)
  (pss_cons (ps_lock (ps_for PassesOwn.never rfl (pi_itemsT (pe_fld (pv 0) rfl)) (pg_tup rfl (pgs_cons (pg_name (i := 4) sc_Editions_advance.nd rfl (Or.inl rfl)) (pgs_cons (pg_name (i := 5) sc_Editions_advance.nd rfl (Or.inl rfl)) pgs_nil))) (pss_one (ps_for PassesOwn.never rfl (pi_list (pe_meth (pv 0) T.c_Editions T.t_Editions_steps_from (ok_Editions_steps_from T) (hr.mono (by decide)) T.b_Editions_steps_from .nil pass0 (pa_cons (pv 4) pa_nil))) (pg_name (i := 6) sc_Editions_advance.nd rfl (Or.inl rfl)) (pss_cons (ps_set (i := 7) sc_Editions_advance.nd rfl (Or.inl rfl) (pe_tup (pa_cons (pe_meth (pv 1) T.c_Reader T.t_Reader_behind (ok_Reader_behind T) (hr.mono (by decide)) T.b_Reader_behind .nil pass0 (pa_cons (pe_ix ix_tup (pv 4) pe_int (fun _ _ => rfl)) (pa_cons (pv 6) pa_nil))) (pa_cons (pe_meth (pv 2) T.c_Reader T.t_Reader_behind (ok_Reader_behind T) (hr.mono (by decide)) T.b_Reader_behind .nil pass0 (pa_cons (pe_ix ix_tup (pv 4) pe_int (fun _ _ => rfl)) (pa_cons (pv 6) pa_nil))) pa_nil))))
  (pss_one (ps_if (pt_cmp (pc_dnotin hu (pv 7) (pe_fld (pv 0) rfl))) (pss_cons (ps_set (i := 8) sc_Editions_advance.nd rfl (Or.inl rfl) (pe_op op_catA (pv 5) (pe_tup (pa_cons (pv 6) pa_nil))))
  (pss_one (ps_if (PW.pt (pw_or (pt_cmp (pc_dnotin hu (pv 7) (pv 3))) (pw_or1 (pt_cmpR (op_ltD hr) (pv 8) (pe_dget hu (pv 3) (pv 7) (fun _ _ => rfl)) (nomark _))))) (pss_one (ps_dput hu (pv 3) (pv 7) (pv 8) rfl)) pss_nil))) pss_nil)))))))
  (pss_cons (ps_lock (ps_for PassesOwn.never rfl (pi_keys (pv 3)) (pg_name (i := 7) sc_Editions_advance.nd rfl (Or.inl rfl)) (pss_one (ps_dput hu (pe_fld (pv 0) rfl) (pv 7) pe_bl rfl))))
  (pss_one (ps_fld (pv 0) (pv 3) rfl)))))), ?_⟩
    refine ⟨_, rfl, p, _, dx, _, _, rfl, hp, ec.c, ec.n1, edF_r _ _ _ _, rt, _, rfl, SqT.of (Hd.le _ _ tw.t), rfl, _, _, rfl, _, _, rfl, rfl, ?_⟩
    -- later
    intro lt hlt
    have k1 : Ke H (upd H lt (.dT [])) := Ke.new hlt
    have hlt1 : (upd H lt (.dT [])) lt = some (.dT []) := upd_same
    generalize hH1 : upd H lt (.dT []) = H1 at k1 hlt1 ⊢
    have hl1 := k1.at hld
    have hm1 := k1.at hmd
    have hp1 := k1.at hp
    have nlt : ld ≠ lt := ne_of_none hld hlt
    have nmt : md ≠ lt := ne_of_none hmd hlt
    have npt : p ≠ lt := ne_of_none hp hlt
    have npl : p ≠ ld := ne_of hp hld (fun z => nomatch z)
    have npm : p ≠ md := ne_of hp hmd (fun z => nomatch z)
    have tw1 : TwoRd T.a_Reader (Hd (fun a => a = p ∨ a = md ∨ a = ld ∨ a = lt) H1) rt x1 x2 o1 o2 ks1 ks2 := tw.ke (Ke.of fun a o e => by
      obtain ⟨q1, q2⟩ := Hd.at e
      exact Hd.get (fun z => z.elim (fun z => q1 (.inl z)) fun z => z.elim (fun z => q1 (.inr (.inl z))) fun z => z.elim (fun z => q1 (.inr (.inr z))) fun z => by rw [z, hlt] at q2; cases q2) (k1.at q2))
    -- the layer is walked
    refine ⟨ld, .dT kvs, hl1, True.intro, fun od => ?_⟩
    have kl : Ks (fun a => a = ld ∨ a = lt) H1 (upd H1 ld (.frz od (.dT kvs))) := (lock_ks hl1 (fun _ z => nomatch z)).mono fun a z => .inl z
    refine ⟨_, rfl, p, _, dx, _, _, rfl, by rw [upd_ne npl]; exact hp1, ec.c, ec.n4, edF_l _ _ _ _, ld, od, kvs, rfl, upd_same, ?_⟩
    refine for_it walk_itemsT (fun n σ H' => (∃ s4 s5 s6 s7 s8, σ = [some (.ref p), some (.ref x1), some (.ref x2), some (.ref lt), s4, s5, s6, s7, s8]) ∧ Ks (fun a => a = ld ∨ a = lt) H1 H' ∧ H' ld = some (.frz od (.dT kvs)) ∧ ∃ kvl lat, H' lt = some (.dT kvl) ∧ Paired (LR H') kvl lat ∧ LatOk o1 o2 ks1 ks2 met lay lat ∧ Seen o1 o2 ks1 ks2 met lat (fun y _ => y ∈ lay.take n))
      ⟨⟨_, _, _, _, _, rfl⟩, kl, upd_same, [], [], by rw [upd_ne nlt.symm]; exact hlt1, .nil, ⟨by simp, fun x hx => by cases hx⟩, fun y st i j d => by simp at d⟩ (fun n σ H' _ q => q.2.2.1) ?_ ?_
    · rintro n x σ H2 H2' hn ⟨⟨s4, s5, s6, s7, s8, rfl⟩, k2, hl2, kvl, lat, hlt2, plt, lok, sen⟩ ⟨t, key, v, q, hkv, hq, rfl, ht, rfl⟩
      obtain ⟨y, hy, ekey, ssy⟩ := pgetL pl hkv
      have ym := List.mem_of_getElem? hy
      obtain ⟨⟨i, j, ey, ni, nj⟩, ysl⟩ := hlay y ym
      have ek : key.map kV = [.int i, .int j] := by
        have e2 : key = keyI y.1 := ekey
        rw [e2, keyI_kV, ey]; rfl
      rw [ek] at hq
      have k3 : Ke H2 (upd H2 t (.tup [.ref q, v])) := Ke.new ht
      have hl3 := k3.at hl2
      have hq3 := k3.at hq
      have hlt3 := k3.at hlt2
      have plt3 : Paired (LR (upd H2 t (.tup [.ref q, v]))) kvl lat := pimp (fun a b r => ⟨r.1, SS.stb _ _ _ _ k3.tx r.2⟩) plt
      have k03 : Ks (fun a => a = ld ∨ a = lt) H1 (upd H2 t (.tup [.ref q, v])) := k2.trans k3.ks
      have htt : (upd H2 t (.tup [.ref q, v])) t = some (.tup [.ref q, v]) := upd_same
      have ssy3 : SS (upd H2 t (.tup [.ref q, v])) v y.2 := SS.stb _ _ _ _ (k1.tx.trans k03.tx) ssy
      generalize hH3 : upd H2 t (.tup [.ref q, v]) = H3 at k03 hl3 hq3 htt hlt3 plt3 ssy3 ⊢
      clear k3 plt hlt2
      have get3 : ∀ a o, a ≠ ld → a ≠ lt → H1 a = some o → H3 a = some o := fun a o z1 z2 h => k03.keep a o (fun z => z.elim z1 z2) h
      have hp3 := get3 _ _ npl npt hp1
      have hX : ∀ {H' : Hp}, Ks (fun a => a = ld ∨ a = lt) H1 H' → TwoRd T.a_Reader H' rt x1 x2 o1 o2 ks1 ks2 := fun kk => (tw1.ke (Hd.ke (kk.mono fun a z => z.elim (fun z => .inr (.inr (.inl z))) fun z => .inr (.inr (.inr z))))).ke (Le.ke Hd.le)
      refine ⟨t, _, rfl, SqT.of htt, rfl, _, _, rfl, _, _, rfl, rfl, ?_⟩
      -- steps_from
      refine ⟨_, rfl, p, dx, _, rfl, hp3, edF_no _ _ _ _ (by decide +kernel) (by decide +kernel) (by decide +kernel) (by decide +kernel), _, rfl, p, dx, _, rt, x1, x2, o1, o2, ks1, ks2, .ref q, i, j, rfl, hp3, edF_r _ _ _ _, hX k03, wf1, wf2, ni, nj, ⟨q, rfl, hq3⟩, ?_⟩
      intro sl sw sts H4 hsl k4 hsl4 psl msl _
      have stk : lay.take (n + 1) = lay.take n ++ [y] := by rw [List.take_succ, hy]; rfl
      have nsl : sl ≠ lt := fun z => by rw [z, hlt3] at hsl; cases hsl
      have k04 := k03.trans k4.ks
      refine ⟨sl, rfl, ⟨_, SqL.of hsl4⟩, fo_L (R := TI H4) (fun dn σ H' => (∃ s6 s7 s8, σ = [some (.ref p), some (.ref x1), some (.ref x2), some (.ref lt), some (.ref q), some v, s6, s7, s8]) ∧ Ks (fun a => a = ld ∨ a = lt) H1 H' ∧ H' ld = some (.frz od (.dT kvs)) ∧ H' sl = some (.lst sw) ∧ Tx H4 H' ∧ ∃ kvl lat, H' lt = some (.dT kvl) ∧ Paired (LR H') kvl lat ∧ LatOk o1 o2 ks1 ks2 met lay lat ∧ Seen o1 o2 ks1 ks2 met lat (fun y' st' => y' ∈ lay.take n ∨ (y' = y ∧ st' ∈ dn))) psl
        ⟨⟨_, _, _, rfl⟩, k04, k4.at hl3, hsl4, .refl, kvl, lat, k4.at hlt3, pimp (fun a b r => ⟨r.1, SS.stb _ _ _ _ k4.tx r.2⟩) plt3, lok, sen.mono fun y' st' _ _ d _ _ => d.elim id fun z => by cases z.2⟩ (fun dn σ H' z => z.2.2.2.1) ?_ ?_⟩
      · rintro dn st r w' σ H5 e ⟨sa, rfl, hsa⟩ ⟨⟨s6, s7, s8, rfl⟩, k05, hl5, hsl5, t45, kvl5, lat5, hlt5, plt5, lok5, sen5⟩
        have hsa5 := t45.tup _ _ hsa
        have hst := (msl st).mp (by rw [e]; simp)
        have hq5 := t45.tup _ _ (k4.at hq3)
        have tw5 := hX k05
        obtain ⟨d1, tl1, sl1, kl1, _, _, _, hx1, _⟩ := tw5.a.ex
        obtain ⟨d2, tl2, sl2, kl2, _, _, _, hx2, _⟩ := tw5.b.ex
        -- goal
        refine ⟨_, rfl, x1, d1, _, rfl, hx1, rdF_no _ _ _ (by decide +kernel) (by decide +kernel) (by decide +kernel), _, rfl, q, _, 0, _, rfl, rfl, SqT.of hq5, rfl, _, rfl, x1, o1, ks1, i, _, st, rfl, tw5.a, ni, ⟨sa, rfl, hsa5⟩, ?_⟩
        refine ⟨_, rfl, x2, d2, _, rfl, hx2, rdF_no _ _ _ (by decide +kernel) (by decide +kernel) (by decide +kernel), _, rfl, q, _, 1, _, rfl, rfl, SqT.of hq5, rfl, _, rfl, x2, o2, ks2, j, _, st, rfl, tw5.b, nj, ⟨sa, rfl, hsa5⟩, ?_⟩
        refine ⟨(by show 2 ≤ sizeLine; decide), fun gt hgt => ?_⟩
        have k6 : Ke H5 (upd H5 gt (.tup [.int (behindM o1 ks1 i st), .int (behindM o2 ks2 j st)])) := Ke.new hgt
        have hg6 : (upd H5 gt (.tup [.int (behindM o1 ks1 i st), .int (behindM o2 ks2 j st)])) gt = some (.tup ((keyI [behindM o1 ks1 i st, behindM o2 ks2 j st]).map kV)) := by rw [upd_same]; rfl
        have gN : PairN ks1 ks2 [behindM o1 ks1 i st, behindM o2 ks2 j st] := ⟨_, _, rfl, behind_ok cl1, behind_ok cl2⟩
        have cand : ∃ y ∈ lay, ∃ st', Cand o1 o2 ks1 ks2 y st' ([behindM o1 ks1 i st, behindM o2 ks2 j st], y.2 ++ [st]) := ⟨y, ym, st, i, j, ey, hst, rfl⟩
        have cand' : ∃ y' ∈ lay, ∃ st', Cand o1 o2 ks1 ks2 y' st' ([behindM o1 ks1 i st, behindM o2 ks2 j st], y.2 ++ [st]) := ⟨y, ym, st, i, j, ey, hst, rfl⟩
        have adds : ∀ {lat' : Lay}, Seen o1 o2 ks1 ks2 met lat' (fun y' st' => y' ∈ lay.take n ∨ (y' = y ∧ st' ∈ dn)) → ([behindM o1 ks1 i st, behindM o2 ks2 j st] ∉ met → ∃ ss, ([behindM o1 ks1 i st, behindM o2 ks2 j st], ss) ∈ lat' ∧ wlt (y.2 ++ [st]) ss = false) → Seen o1 o2 ks1 ks2 met lat' (fun y' st' => y' ∈ lay.take n ∨ (y' = y ∧ st' ∈ dn ++ [st])) := fun x h => x.add ey h fun y' st' d => d.elim (fun z => .inl (.inl z)) fun z => (List.mem_append.mp z.2).elim (fun q => .inl (.inr ⟨z.1, q⟩)) fun q => .inr ⟨z.1, List.mem_singleton.mp q⟩
        generalize [behindM o1 ks1 i st, behindM o2 ks2 j st] = g at hg6 gN cand' adds
        have k06 := k05.trans k6.ks
        have hl6 := k6.at hl5
        have hsl6 := k6.at hsl5
        have t46 := t45.trans k6.tx
        have hlt6 := k6.at hlt5
        have plt6 : Paired (LR (upd H5 gt (.tup [.int (behindM o1 ks1 i st), .int (behindM o2 ks2 j st)]))) kvl5 lat5 := pimp (fun a b r => ⟨r.1, SS.stb _ _ _ _ k6.tx r.2⟩) plt5
        have hp6 : (upd H5 gt (.tup [.int (behindM o1 ks1 i st), .int (behindM o2 ks2 j st)])) p = some (.ins T.a_Editions dx (edF (.ref rt) (.int m) (.ref md) (.ref ld))) := k06.keep _ _ (fun z => z.elim npl npt) hp1
        have hm6 : (upd H5 gt (.tup [.int (behindM o1 ks1 i st), .int (behindM o2 ks2 j st)])) md = some (.dT kvm) := k06.keep _ _ (fun z => z.elim nml nmt) hm1
        generalize hH6 : upd H5 gt (.tup [.int (behindM o1 ks1 i st), .int (behindM o2 ks2 j st)]) = H6 at k06 hl6 hsl6 t46 hlt6 plt6 hp6 hm6 hg6 ⊢
        clear k6 plt5 hlt5
        refine ⟨_, rfl, _, rfl, p, _, dx, _, _, rfl, hp6, ec.c, ec.n3, edF_t _ _ _ _, md, _, rfl, DGet.t hm6 hg6, _, rfl, ?_⟩
        rw [met_get ekm]
        by_cases hgm : g ∈ met
        · exact ifNT hgm ⟨⟨_, _, _, rfl⟩, k06, hl6, hsl6, t46, kvl5, lat5, hlt6, plt6, lok5, adds sen5 fun z => absurd hgm z⟩
        · refine ifNF hgm ?_
          -- longer
          have ssy6 : SS H6 v y.2 := SS.stb _ _ _ _ (k4.tx.trans t46) ssy3
          obtain ⟨va, vw, rfl, hva, pva⟩ := ssy6
          have lva := plen pva
          have hsa6 := t46.tup _ _ hsa
          have lk5 : kvl5.length ≤ 101 * 101 := by
            have h1 := plen plt6
            have h2 := pairN_len lok5.nd (ks1 := ks1) (ks2 := ks2) fun g' hg' => by
              obtain ⟨x', hx', e'⟩ := List.mem_map.mp hg'
              rw [← e']; exact (lok5.ok x' hx').2.1
            have h3 : (ks1.length + 1) * (ks2.length + 1) ≤ 101 * 101 := Nat.mul_le_mul (by omega) (by omega)
            rw [List.length_map] at h2
            omega
          refine ⟨_, rfl, _, rfl, (by show 1 ≤ sizeLine; decide), fun u hu' => ⟨va, u, vw, [.ref sa], rfl, rfl, SqT.of ((Ke.new hu').at hva), SqT.of upd_same, (by rw [sizeLine_eq]; simp; omega), fun z => ?ca, (fun _ z => by cases z), fun nz _ b hb => ?cc⟩⟩
          case' ca =>
            have F : Ke H6 (upd H6 u (.tup [.ref sa])) ∧ SS (upd H6 u (.tup [.ref sa])) (.ref u) (y.2 ++ [st]) := by
              have e0 : y.2 = [] := by
                have : y.2.length = 0 := by rw [← lva, z]; rfl
                exact List.length_eq_zero_iff.mp this
              refine ⟨Ke.new hu', u, [.ref sa], rfl, upd_same, ?_⟩
              rw [e0]
              exact .cons ⟨sa, rfl, (Ke.new hu').at hsa6⟩ .nil
          case' cc =>
            have F : Ke H6 (upd (upd H6 u (.tup [.ref sa])) b (.tup (vw ++ [.ref sa]))) ∧ SS (upd (upd H6 u (.tup [.ref sa])) b (.tup (vw ++ [.ref sa]))) (.ref b) (y.2 ++ [st]) := by
              have kk : Ke H6 (upd (upd H6 u (.tup [.ref sa])) b (.tup (vw ++ [.ref sa]))) := (Ke.new hu').trans (Ke.new hb)
              exact ⟨kk, b, _, rfl, upd_same, papp (pimp (fun v x r => TI.stb _ _ v x kk.tx r) pva) (.cons ⟨sa, rfl, kk.at hsa6⟩ .nil)⟩
          all_goals
            obtain ⟨k7, ss7⟩ := F
            have hlt7 := k7.at hlt6
            have hg7 := k7.at hg6
            have plt7 := pimp (fun a b r => ⟨r.1, SS.stb _ _ _ _ k7.tx r.2⟩) plt6 (G := LR _)
            have nn : ∀ ys, HO.dT kvl5 ≠ .tup ys := fun _ z => nomatch z
            refine ⟨_, rfl, _, rfl, lt, _, rfl, DGet.t hlt7 hg7, _, rfl, ?_⟩
            rcases lay_get (g := g) plt7 with ⟨z1, z2⟩ | ⟨v0, ss0, z1, z2, z3⟩
            · rw [z2]
              refine iteT (iteT ⟨_, rfl, _, rfl, _, rfl, lt, _, rfl, DPut.t hlt7 hg7 (by rw [sizeLine_eq]; omega), ?_⟩)
              exact ⟨⟨_, _, _, rfl⟩, (k06.trans k7.ks).mut (.inr rfl) (fun ys z => by rw [hlt7] at z; cases z), by rw [upd_ne nlt]; exact k7.at hl6, by rw [upd_ne nsl]; exact k7.at hsl6, t46.trans (k7.tx.trans (put_tx hlt7 nn)), _, _, upd_same, pimp (fun a b r => ⟨r.1, SS.stb _ _ _ _ (put_tx hlt7 nn) r.2⟩) (lay_put plt7 ss7), lok5.put hgm gN cand', adds (sen5.put fun s0 h0 => absurd (List.mem_map.mpr ⟨_, h0, rfl⟩) z1) fun _ => ⟨_, putL_new, wlt_irr _⟩⟩
            · rw [z2]
              refine iteF ⟨_, rfl, _, rfl, _, rfl, lt, v0, rfl, by rw [← z2]; exact DGet.t hlt7 hg7, encS (y.2 ++ [st]), encS ss0, SS.enc K _ _ _ ss7, SS.enc K _ _ _ z3, ?_, (fun z => nomatch z), ?_, _, rfl, ?_⟩
              · show alike (.tuple _) (.tuple _) = true
                rw [alike]; exact alike_S _ _
              · show PyData.depth (.tuple _) ≤ 60
                rw [PyData.depth]
                have := depth_S (y.2 ++ [st])
                omega
              · cases hb2 : dataLt (encS (y.2 ++ [st])) (encS ss0) with
                | true =>
                  refine iteT ⟨_, rfl, _, rfl, _, rfl, lt, _, rfl, DPut.t hlt7 hg7 (by rw [sizeLine_eq]; omega), ?_⟩
                  exact ⟨⟨_, _, _, rfl⟩, (k06.trans k7.ks).mut (.inr rfl) (fun ys z => by rw [hlt7] at z; cases z), by rw [upd_ne nlt]; exact k7.at hl6, by rw [upd_ne nsl]; exact k7.at hsl6, t46.trans (k7.tx.trans (put_tx hlt7 nn)), _, _, upd_same, pimp (fun a b r => ⟨r.1, SS.stb _ _ _ _ (put_tx hlt7 nn) r.2⟩) (lay_put plt7 ss7), lok5.put hgm gN cand', adds (sen5.put fun s0 h0 => by rw [key_uniq lok5.nd h0 z1, ← lt_S]; exact hb2) fun _ => ⟨_, putL_new, wlt_irr _⟩⟩
                | false =>
                  exact iteF ⟨⟨_, _, _, rfl⟩, k06.trans k7.ks, k7.at hl6, k7.at hsl6, t46.trans k7.tx, _, _, hlt7, plt7, lok5, adds sen5 fun _ => ⟨ss0, z1, by rw [← lt_S]; exact hb2⟩⟩
      · rintro σ H5 ⟨⟨s6, s7, s8, rfl⟩, k05, hl5, hsl5, t45, kvl5, lat5, hlt5, plt5, lok5, sen5⟩
        exact ⟨⟨_, _, _, _, _, rfl⟩, k05, hl5, kvl5, lat5, hlt5, plt5, lok5, sen5.mono fun y' st' i' j' d e' m' => by
          rw [stk] at d
          rcases List.mem_append.mp d with z | z
          · exact .inl z
          · have ez := List.mem_singleton.mp z
            subst ez
            rw [ey] at e'
            injection e' with e1 e'
            injection e' with e2 _
            subst e1 e2
            exact .inr ⟨rfl, (msl st').mpr m'⟩⟩
    · rintro σ H2 ⟨⟨s4, s5, s6, s7, s8, rfl⟩, k2, hl2, kvl, lat, hlt2, plt, lok, sen⟩
      refine ⟨hl2, ?_⟩
      have kU : Ks (fun a => a = lt) H1 (upd H2 ld (.dT kvs)) := unlock hl1 (fun _ z => nomatch z) k2
      have hltU : (upd H2 ld (.dT kvs)) lt = some (.dT kvl) := by rw [upd_ne nlt.symm]; exact hlt2
      have tU : Tx H2 (upd H2 ld (.dT kvs)) := put_tx hl2 (fun _ z => nomatch z)
      have pltU : Paired (LR (upd H2 ld (.dT kvs))) kvl lat := pimp (fun a b r => ⟨r.1, SS.stb _ _ _ _ tU r.2⟩) plt
      generalize hHU : upd H2 ld (.dT kvs) = HU at kU hltU pltU ⊢
      have hpU := kU.keep _ _ npt hp1
      have hmU := kU.keep _ _ nmt hm1
      have ekl := lay_keys pltU
      have lkl : kvl.length = lat.length := plen pltU
      have lks : lat.length ≤ 101 * 101 := by
        have h2 := pairN_len lok.nd (ks1 := ks1) (ks2 := ks2) fun g' hg' => by
          obtain ⟨x', hx', e'⟩ := List.mem_map.mp hg'
          rw [← e']; exact (lok.ok x' hx').2.1
        have h3 : (ks1.length + 1) * (ks2.length + 1) ≤ 101 * 101 := Nat.mul_le_mul (by omega) (by omega)
        rw [List.length_map] at h2
        omega
      have lmm : met.length ≤ 101 * 101 := by
        have h2 := pairN_len ndm hmet
        have h3 : (ks1.length + 1) * (ks2.length + 1) ≤ 101 * 101 := Nat.mul_le_mul (by omega) (by omega)
        omega
      refine ⟨lt, .dT kvl, hltU, True.intro, fun od2 => ?_⟩
      have kl2 : Ks (fun a => a = lt ∨ a = md) HU (upd HU lt (.frz od2 (.dT kvl))) := (lock_ks hltU (fun _ z => nomatch z)).mono fun a z => .inl z
      refine ⟨_, rfl, lt, od2, rfl, .inr ⟨kvl, upd_same, ?_⟩⟩
      refine for_it (walk_keysT (d := lt) (o := od2) (kvs := kvl)) (fun n σ H' => (∃ s4 s5 s6 s7 s8, σ = [some (.ref p), some (.ref x1), some (.ref x2), some (.ref lt), s4, s5, s6, s7, s8]) ∧ H' lt = some (.frz od2 (.dT kvl)) ∧ Ks (fun a => a = lt ∨ a = md) HU H' ∧ ∃ (kvm' : List (List Key × V)) (met' : List (List Int)), H' md = some (.dT kvm') ∧ kvm'.map (·.1) = met'.map keyI ∧ met'.Nodup ∧ (∀ g, g ∈ met' ↔ g ∈ met ∨ g ∈ (lat.map (·.1)).take n) ∧ met'.length = met.length + n)
        ⟨⟨_, _, _, _, _, rfl⟩, upd_same, kl2, kvm, met, by rw [upd_ne nmt]; exact hmU, ekm, ndm, (fun g => by simp), rfl⟩ (fun n σ H' _ q => q.2.1) ?_ ?_
      · rintro n x σ H3 H3' hn ⟨⟨s4, s5, s6, s7, s8, rfl⟩, hlt3, k3, kvm', met', hm3, ek3, nd3, mm3, ln3⟩ ⟨rfl, key, v, q, hkv, rfl, hq⟩
        obtain ⟨g, hg, ekey⟩ : ∃ g, (lat.map (·.1))[n]? = some g ∧ key = keyI g := by
          have z1 : (kvl.map (·.1))[n]? = some key := by rw [List.getElem?_map, hkv]; rfl
          rw [ekl, List.getElem?_map] at z1
          cases z2 : (lat.map (·.1))[n]? with
          | none => rw [z2] at z1; cases z1
          | some g => rw [z2] at z1; exact ⟨g, rfl, (Option.some.inj z1).symm⟩
        subst ekey
        have hp3 := k3.keep _ _ (fun z => z.elim npt npm) hpU
        have lk3 : kvm'.length = met'.length := by have := congrArg List.length ek3; simpa using this
        have gm : g ∉ met' := fun z => by
          rcases (mm3 g).mp z with z | z
          · obtain ⟨x', hx', e'⟩ := List.mem_map.mp (List.mem_of_getElem? hg)
            exact (lok.ok x' hx').1 (by rw [e']; exact z)
          · obtain ⟨i', hi'⟩ := List.mem_iff_getElem?.mp z
            have hlt' : i' < n := by have := (List.getElem?_eq_some_iff.mp hi').1; rw [List.length_take] at this; omega
            rw [List.getElem?_take, if_pos hlt'] at hi'
            obtain ⟨h1, e1⟩ := List.getElem?_eq_some_iff.mp hi'
            obtain ⟨h2, e2⟩ := List.getElem?_eq_some_iff.mp hg
            have := (List.nodup_iff_pairwise_ne.mp lok.nd)
            have := List.pairwise_iff_getElem.mp this i' n h1 h2 hlt'
            exact this (e1.trans e2.symm)
        refine ⟨_, rfl, p, _, dx, _, _, rfl, hp3, ec.c, ec.n3, edF_t _ _ _ _, _, rfl, md, _, rfl, DPut.t hm3 hq (by rw [sizeLine_eq]; omega), ⟨_, _, _, _, _, rfl⟩, by rw [upd_ne nmt.symm]; exact hlt3, k3.mut (.inr rfl) (fun ys z => by rw [hm3] at z; cases z), _, addk met' g, upd_same, keys_put keyI (fun _ _ z => keyI_inj z) ek3, addk_nodup nd3, fun x' => ?_, ?_⟩
        · rw [mem_addk, mm3, List.take_succ, hg]
          simp [or_assoc]
        · unfold addk
          rw [if_neg gm, List.length_append, ln3]; rfl
      · rintro σ H3 ⟨⟨s4, s5, s6, s7, s8, rfl⟩, hlt3, k3, kvm', met', hm3, ek3, nd3, mm3, ln3⟩
        refine ⟨hlt3, ?_⟩
        have kV : Ks (fun a => a = md) HU (upd H3 lt (.dT kvl)) := unlock hltU (fun _ z => nomatch z) k3
        have hmV : (upd H3 lt (.dT kvl)) md = some (.dT kvm') := by rw [upd_ne nmt]; exact hm3
        have hltV : (upd H3 lt (.dT kvl)) lt = some (.dT kvl) := upd_same
        generalize hHV : upd H3 lt (.dT kvl) = HV at kV hmV hltV ⊢
        have hpV := kV.keep _ _ npm hpU
        refine ⟨_, rfl, _, rfl, p, _, dx, _, rfl, hpV, ec.c, ec.n4, (by rw [edF_l4]; show 4 < 1000; decide), ?_⟩
        rw [edF_put]
        have kW : Ks (fun a => a = md ∨ a = p) HU (upd HV p (.ins T.a_Editions dx (edF (.ref rt) (.int m) (.ref md) (.ref lt)))) := (kV.mono fun a z => .inl z).mut (.inr rfl) (fun ys z => by rw [hpV] at z; cases z)
        have eln : (lat.map (·.1)).take kvl.length = lat.map (·.1) := by rw [lkl, ← List.length_map (as := lat) (·.1), List.take_length]
        refine k met' lat _ lok (by rw [lpl, List.take_length] at sen; exact sen) (fun g => by rw [mm3, eln]) nd3 (by rw [ln3, lkl]) ?_ ⟨dx, rt, x1, x2, lt, upd_same, ?_, ⟨kvm', by rw [upd_ne npm.symm]; exact hmV, ek3, nd3⟩, ⟨kvl, by rw [upd_ne npt.symm]; exact hltV, pimp (fun a b r => ⟨r.1, SS.stb _ _ _ _ kW.tx r.2⟩) pltU, lok.nd⟩, nmt⟩
        · refine (k1.comp kU (U := fun a => a = p ∨ a = md) (fun _ z => z.elim) (fun a z => .inr (by rw [z]; exact hlt))).comp kW (fun _ z => z) fun a z => .inl (z.elim .inr .inl)
        · refine tw1.ke (Ke.of fun a o e => ?_)
          obtain ⟨q1, q2⟩ := Hd.at e
          exact Hd.get (fun z => z.elim (fun z => q1 (.inl z)) fun z => z.elim (fun z => q1 (.inr (.inl z))) fun z => q1 (.inr (.inr (.inr z)))) (kW.keep a o (fun z => z.elim (fun z => q1 (.inr (.inl z))) fun z => q1 (.inl z)) (kU.keep a o (fun z => q1 (.inr (.inr (.inr z)))) q2))
end
end Fd
set_option Elab.async false
set_option linter.all false
set_option maxRecDepth 100000
set_option maxHeartbeats 4000000
/-! The office that remembers, in plain lists: how many sets its reader has. -/
namespace Fd
def rowL (s : Int) : List (List Int) := [[0, 0, 0, s], [1, 0, 0, s]]
def row0 : List (List Int) := [[0, 0, 0, 0], [1, 0, 0, 0], [1, 0, 0, 1]]
def midL (i : Nat) : List (List (List Int)) := (List.range i).map fun (k : Nat) => rowL (1 + (k : Int) + 1)
def longO (n : Nat) : Ofc := ⟨[2, 1, 1], (row0 :: midL (n - 1)) ++ [[]], List.replicate n [] ++ [[0]]⟩
theorem midL_succ (i : Nat) : midL (i + 1) = midL i ++ [rowL (1 + (i : Int) + 1)] := by
  unfold midL
  rw [List.range_succ, List.map_append]; rfl
theorem long_len {n : Nat} (h : 1 ≤ n) : (longO n).mv.length = n + 1 := by
  show ((row0 :: midL (n - 1)) ++ [[]]).length = n + 1
  unfold midL
  rw [List.length_append, List.length_cons, List.length_map, List.length_range]; simp; omega
theorem long_row {n : Nat} {r : List (List Int)} (h : r ∈ (longO n).mv) : r = row0 ∨ (∃ k : Nat, k < n - 1 ∧ r = rowL (1 + (k : Int) + 1)) ∨ r = [] := by
  have h' : r ∈ (row0 :: midL (n - 1)) ++ [[]] := h
  rcases List.mem_append.mp h' with z | z
  · rcases List.mem_cons.mp z with z | z
    · exact .inl z
    · obtain ⟨k, hk, rfl⟩ := List.mem_map.mp z
      exact .inr (.inl ⟨k, List.mem_range.mp hk, rfl⟩)
  · exact .inr (.inr (List.mem_singleton.mp z))
theorem long_good {n : Nat} (h : 4 ≤ n) (h' : n ≤ 9) : Good (longO n).sz (longO n).mv (longO n).cl where
  s := ⟨rfl, fun x hx => by
    have hx' : x ∈ ([2, 1, 1] : List Int) := hx
    simp only [List.mem_cons, List.mem_nil_iff, or_false] at hx'
    rcases hx' with rfl | rfl | rfl <;> omega⟩
  m := by
    have hl := long_len (n := n) (by omega)
    refine ⟨by omega, by omega, fun r hr => ?_⟩
    have mo : ∀ s g : Int, (0 ≤ s ∧ s ≤ 1) → (0 ≤ g ∧ g ≤ n) → MoveOk (longO n).sz ((longO n).mv.length : Nat) [s, 0, 0, g] := fun s g h1 h2 =>
      ⟨2, 1, 1, s, 0, 0, g, rfl, rfl, ⟨h1.1, by omega⟩, ⟨by omega, by omega⟩, ⟨by omega, by omega⟩, h2.1, by rw [hl]; omega⟩
    rcases long_row hr with rfl | ⟨k, hk, rfl⟩ | rfl
    · refine ⟨fun m hm => ?_, by decide, by decide⟩
      simp only [row0, List.mem_cons, List.mem_nil_iff, or_false] at hm
      rcases hm with rfl | rfl | rfl
      · exact mo 0 0 (by omega) (by omega)
      · exact mo 1 0 (by omega) (by omega)
      · exact mo 1 1 (by omega) (by omega)
    · refine ⟨fun m hm => ?_, ?_, by show 2 < 1000000; decide⟩
      · simp only [rowL, List.mem_cons, List.mem_nil_iff, or_false] at hm
        rcases hm with rfl | rfl
        · exact mo 0 _ (by omega) (by omega)
        · exact mo 1 _ (by omega) (by omega)
      · refine List.pairwise_cons.mpr ⟨fun m hm => ?_, by simp⟩
        rw [List.mem_singleton.mp hm]
        exact List.cons_lt_cons_iff.mpr (.inl (by decide))
    · exact ⟨(fun m hm => nomatch hm), .nil, by decide⟩
  c := by
    have hl := long_len (n := n) (by omega)
    refine ⟨?_, fun r hr => ?_⟩
    · rw [hl]; show (((List.replicate n [] ++ [[0]] : List (List Int)).length : Nat) : Int) = _
      rw [List.length_append, List.length_replicate]; rfl
    · have hr' : r ∈ List.replicate n ([] : List Int) ++ [[0]] := hr
      rcases List.mem_append.mp hr' with z | z
      · rw [(List.mem_replicate.mp z).2]
        exact ⟨(fun k hk => nomatch hk), .nil, by decide⟩
      · rw [List.mem_singleton.mp z]
        exact ⟨fun k hk => ⟨2, 1, 1, rfl, by rw [List.mem_singleton.mp hk]; decide, by rw [List.mem_singleton.mp hk]; decide⟩, by simp, by decide⟩
theorem long_wf {n : Nat} (h : 4 ≤ n) (h' : n ≤ 9) : Wf (longO n) where
  sz := ⟨2, 1, 1, rfl, by omega, by omega, by omega⟩
  n1 := by rw [long_len (by omega)]; omega
  n2 := by rw [long_len (by omega)]; omega
  cl := by have := (long_good h h').c.1; omega
  mv := fun r hr => ⟨((long_good h h').m.2.2 r hr).2.2, ((long_good h h').m.2.2 r hr).1⟩
  ck := fun r hr => ⟨((long_good h h').c.2 r hr).2.2, fun k hk => by
    obtain ⟨a, b, c, e, h1, h2⟩ := ((long_good h h').c.2 r hr).1 k hk
    have e' : ([2, 1, 1] : List Int) = [a, b, c] := e
    obtain ⟨_, _, rfl⟩ : 2 = a ∧ 1 = b ∧ 1 = c := by simpa using e'
    omega⟩
theorem long_small {n : Nat} : (∀ r ∈ (longO n).mv, r.length ≤ 900) ∧ ∀ r ∈ (longO n).cl, r.length ≤ 900 := by
  refine ⟨fun r hr => ?_, fun r hr => ?_⟩
  · rcases long_row hr with rfl | ⟨k, hk, rfl⟩ | rfl
    · decide
    · show 2 ≤ 900; decide
    · decide
  · have hr' : r ∈ List.replicate n ([] : List Int) ++ [[0]] := hr
    rcases List.mem_append.mp hr' with z | z
    · rw [(List.mem_replicate.mp z).2]; decide
    · rw [List.mem_singleton.mp z]; decide
/-! ### the sets of a reader -/
theorem reach_ok {o : Ofc} (g : GoalsOk o) (n1 : 1 ≤ o.mv.length) {s : List Int} (h : Reach o s) : SetOk o s := by
  cases h with
  | z => exact ⟨by simp, by simp, fun x hx => by rw [List.mem_singleton.mp hx]; omega⟩
  | s _ _ h3 => exact goals_ok g h3
theorem reach_in {o : Ofc} {ks : List (List Int)} (k : KsI o ks) (c : Closed o ks ks.length) {s : List Int} (h : Reach o s) : s ∈ ks := by
  induction h with
  | z => exact List.mem_of_getElem? k.hd
  | @s s st _ h2 h3 ih =>
    obtain ⟨i, hi⟩ := List.getElem?_of_mem ih
    exact c i s (List.getElem?_eq_some_iff.mp hi).1 hi st h2 h3
theorem over_not {o : Ofc} (h : Over o) {ks : List (List Int)} (k : KsI o ks) (c : Closed o ks ks.length) : False := by
  obtain ⟨l, nd, len, hl⟩ := h
  have := len_sub nd fun s hs => reach_in k c (hl s hs)
  have := k.le
  omega
theorem few_not {o : Ofc} {B : List (List Int)} (h : ∀ s, Reach o s → s ∈ B) (hB : B.length ≤ 60) : ¬ Over o := by
  rintro ⟨l, nd, len, hl⟩
  have := len_sub nd fun s hs => h s (hl s hs)
  omega
theorem wf_goals {o : Ofc} (w : Wf o) : GoalsOk o := fun r hr m hm => by
  obtain ⟨a, b, c, s, n, k, g, _, rfl, _, _, _, h3, h4⟩ := (w.mv r hr).2 m hm
  show 0 ≤ g ∧ g < _
  omega
/-- an office of few standings has few sets -/
theorem small_not {o : Ofc} (w : Wf o) (h : o.mv.length ≤ 5) : ¬ Over o := by
  refine few_not (B := subsOf (ran o.mv.length)) (fun s hs => ?_) ?_
  · have k := reach_ok (wf_goals w) w.n1 hs
    exact mem_subsOf (ran_sorted _) k.2.1 fun x hx => mem_ran.mpr (k.2.2 x hx)
  · rw [len_subsOf]
    have h2 : (ran o.mv.length).length = o.mv.length := by unfold ran; simp
    rw [h2]
    exact Nat.le_trans (Nat.pow_le_pow_right (by decide) h : 2 ^ o.mv.length ≤ 2 ^ 5) (by decide)
theorem long_zero {n : Nat} {s : List Int} {x : Int} (h : (0 : Int) ∈ s) (hx : x = 0 ∨ x = 1) : (0 : Int) ∈ goalsM (longO n) s [x, 0, 0] := by
  refine mem_usort.mpr (List.mem_flatMap.mpr ⟨0, h, ?_⟩)
  show (0 : Int) ∈ List.filterMap _ row0
  rcases hx with rfl | rfl <;> simp [row0]
theorem long_steps {n : Nat} {st : List Int} : st ∈ stepsOf (longO n) ↔ st = [0, 0, 0] ∨ st = [1, 0, 0] := by
  have e : stepsOf (longO n) = [[0, 0, 0], [1, 0, 0]] := by
    show stepsM 2 1 1 = _
    decide
  rw [e]; simp
theorem long_has {n : Nat} {s : List Int} (h : Reach (longO n) s) : (0 : Int) ∈ s := by
  induction h with
  | z => simp
  | @s s st _ h2 _ ih =>
    rcases long_steps.mp h2 with rfl | rfl
    · exact long_zero ih (.inl rfl)
    · exact long_zero ih (.inr rfl)
theorem long_few {n : Nat} (h : 4 ≤ n) (h' : n ≤ 5) : ¬ Over (longO n) := by
  have w := long_wf h (by omega)
  refine few_not (B := (subsOf ((List.range n).map fun (k : Nat) => (k : Int) + 1)).map (0 :: ·)) (fun s hs => ?_) ?_
  · obtain ⟨k1, k2, k3⟩ := reach_ok (wf_goals w) w.n1 hs
    have h0 := long_has hs
    match s, k1, k2, k3, h0 with
    | y :: t, _, k2, k3, h0 =>
      obtain ⟨p, q⟩ := List.pairwise_cons.mp k2
      have y0 : y = 0 := by
        rcases List.mem_cons.mp h0 with z | z
        · exact z.symm
        · have := p 0 z
          have := (k3 y (by simp)).1
          omega
      subst y0
      refine List.mem_map.mpr ⟨t, mem_subsOf ?_ q fun x hx => ?_, rfl⟩
      · rw [List.pairwise_map]
        exact List.pairwise_lt_range.imp fun {a b} z => by omega
      · have h1 := p x hx
        have h2 := (k3 x (by simp [hx])).2
        rw [long_len (by omega)] at h2
        exact List.mem_map.mpr ⟨(x - 1).toNat, List.mem_range.mpr (by omega), by omega⟩
  · rw [List.length_map, len_subsOf, List.length_map, List.length_range]
    exact Nat.le_trans (Nat.pow_le_pow_right (by decide) h' : 2 ^ n ≤ 2 ^ 5) (by decide)
def runW (o : Ofc) (s : List Int) (w : List Int) : List Int := w.foldl (fun s x => goalsM o s [x, 0, 0]) s
theorem reach_run {n : Nat} : ∀ {w s : List Int}, (∀ x ∈ w, x = 0 ∨ x = 1) → Reach (longO n) s → Reach (longO n) (runW (longO n) s w)
  | [], _, _, h => h
  | x :: w, s, hw, h => by
    show Reach _ (runW _ (goalsM _ s [x, 0, 0]) w)
    have hx := hw x (by simp)
    have h0 := long_zero (n := n) (long_has h) hx
    refine reach_run (fun y hy => hw y (by simp [hy])) (.s h (long_steps.mpr ?_) fun z => ?_)
    · rcases hx with rfl | rfl <;> simp
    · rw [z] at h0; cases h0
def words : Nat → List (List Int)
  | 0 => [[]]
  | n + 1 => (words n).flatMap fun w => [0 :: w, 1 :: w]
theorem words_ok : ∀ (n : Nat) (w : List Int), w ∈ words n → ∀ x ∈ w, x = 0 ∨ x = 1
  | 0, w, h, x, hx => by
    rw [List.mem_singleton.mp h] at hx; cases hx
  | n + 1, w, h, x, hx => by
    obtain ⟨v, hv, h⟩ := List.mem_flatMap.mp h
    simp only [List.mem_cons, List.mem_nil_iff, or_false] at h
    rcases h with rfl | rfl
    · rcases List.mem_cons.mp hx with z | z
      · exact .inl z
      · exact words_ok n v hv x z
    · rcases List.mem_cons.mp hx with z | z
      · exact .inr z
      · exact words_ok n v hv x z
def setsL (n : Nat) : List (List Int) := ((words 6).take 61).map (runW (longO n) [0])
def ndB : List (List Int) → Bool
  | [] => true
  | x :: l => !l.contains x && ndB l
theorem ndB_ok : ∀ {l : List (List Int)}, ndB l = true → l.Nodup
  | [], _ => .nil
  | x :: l, h => by
    unfold ndB at h
    obtain ⟨h1, h2⟩ := Bool.and_eq_true_iff.mp h
    refine List.nodup_cons.mpr ⟨fun z => ?_, ndB_ok h2⟩
    rw [List.contains_iff_mem.mpr z] at h1; cases h1
theorem long_over {n : Nat} (h : 6 ≤ n) (h' : n ≤ 9) : Over (longO n) := by
  refine ⟨setsL n, ndB_ok ?_, ?_, fun s hs => ?_⟩
  · have : n = 6 ∨ n = 7 ∨ n = 8 ∨ n = 9 := by omega
    rcases this with rfl | rfl | rfl | rfl <;> decide +kernel
  · unfold setsL; rw [List.length_map]; decide +kernel
  · obtain ⟨w, hw, rfl⟩ := List.mem_map.mp hs
    exact reach_run (words_ok 6 w (List.mem_of_mem_take hw)) .z
end Fd
set_option Elab.async false
set_option linter.all false
set_option maxRecDepth 100000
set_option maxHeartbeats 4000000
/-! Numbers of sets and the sets themselves. -/
namespace Fd
def setOf (ks : List (List Int)) (i : Int) : List Int := if i = -1 then [] else ks.getD i.toNat []
noncomputable def nxP (o1 o2 : Ofc) (ks1 ks2 : List (List Int)) (g : List Int) (st : List Int) : List Int := [behindM o1 ks1 (g.getD 0 0) st, behindM o2 ks2 (g.getD 1 0) st]
def deadP (g : List Int) : Prop := g = [-1, -1]
def PtP (o1 o2 : Ofc) (ks1 ks2 : List (List Int)) (m : Int) (g : List Int) (last : Int) : Prop := (0 ≤ last ∧ last < m) ∧ closesM o1 ks1 (g.getD 0 0) last ≠ closesM o2 ks2 (g.getD 1 0) last
theorem goals_nil {o : Ofc} {st : List Int} : goalsM o [] st = [] := rfl
theorem lasts_nil {o : Ofc} : lastsM o [] = [] := rfl
theorem setOf_dead {ks : List (List Int)} : setOf ks (-1) = [] := if_pos rfl
theorem setOf_get {ks : List (List Int)} {i : Int} {s : List Int} (h0 : 0 ≤ i) (h : ks[i.toNat]? = some s) : setOf ks i = s := by
  unfold setOf
  rw [if_neg (by omega), List.getD_eq_getElem?_getD, h]; rfl
theorem behind_set {o : Ofc} {ks : List (List Int)} (c : Closed o ks ks.length) {i : Int} (n : NumOk ks i) {st : List Int} (hst : st ∈ stepsOf o) : setOf ks (behindM o ks i st) = goalsM o (setOf ks i) st := by
  unfold behindM
  by_cases h : Mv o ks i st
  · rw [if_pos h]
    obtain ⟨h0, s, hs, h1, h2⟩ := h
    have eg : ks.getD i.toNat [] = s := by rw [List.getD_eq_getElem?_getD, hs]; rfl
    rw [eg, setOf_get h0 hs]
    have hm := c _ s (List.getElem?_eq_some_iff.mp hs).1 hs st h1 h2
    have hl := List.idxOf_lt_length_of_mem hm
    refine setOf_get (by omega) ?_
    rw [Int.toNat_natCast, List.getElem?_eq_getElem hl, List.getElem_idxOf hl]
  · rw [if_neg h, setOf_dead]
    rcases n with rfl | ⟨h0, h1⟩
    · rw [setOf_dead]; exact goals_nil.symm
    · have hs : ks[i.toNat]? = some ks[i.toNat] := List.getElem?_eq_getElem (by omega)
      rw [setOf_get h0 hs]
      refine Classical.byContradiction fun z => h ⟨h0, _, hs, hst, fun e => z e.symm⟩
theorem closes_set {o : Ofc} {ks : List (List Int)} {i last : Int} : closesM o ks i last = closesS o (setOf ks i) last := by
  unfold closesM closesS setOf
  by_cases c : i = -1
  · rw [if_pos c, lasts_nil, decide_eq_false (fun z => z c)]; simp
  · rw [if_neg c, decide_eq_true c]; rfl
theorem steps_eq {o1 o2 : Ofc} (h : o1.sz = o2.sz) : stepsOf o1 = stepsOf o2 := by unfold stepsOf; rw [h]
section
variable {o1 o2 : Ofc} {ks1 ks2 : List (List Int)}
theorem walk_two (es : o1.sz = o2.sz) (c1 : Closed o1 ks1 ks1.length) (c2 : Closed o2 ks2 ks2.length) : ∀ (w : Wrd) (i j : Int), Wd (stepsOf o1) w → NumOk ks1 i → NumOk ks2 j →
    ∃ i' j', w.foldl (nxP o1 o2 ks1 ks2) [i, j] = [i', j'] ∧ (NumOk ks1 i' ∧ NumOk ks2 j') ∧ setOf ks1 i' = w.foldl (goalsM o1) (setOf ks1 i) ∧ setOf ks2 j' = w.foldl (goalsM o2) (setOf ks2 j)
  | [], i, j, _, h1, h2 => ⟨i, j, rfl, ⟨h1, h2⟩, rfl, rfl⟩
  | st :: w, i, j, hw, h1, h2 => by
    have hst : st ∈ stepsOf o1 := hw st (by simp)
    obtain ⟨i', j', e, n, s1, s2⟩ := walk_two es c1 c2 w (behindM o1 ks1 i st) (behindM o2 ks2 j st) (fun x hx => hw x (by simp [hx])) (behind_ok c1) (behind_ok c2)
    refine ⟨i', j', e, n, ?_, ?_⟩
    · rw [s1, behind_set c1 h1 hst]; rfl
    · rw [s2, behind_set c2 h2 (by rw [← steps_eq es]; exact hst)]; rfl
theorem num_zero {o : Ofc} {ks : List (List Int)} (k : KsI o ks) : NumOk ks 0 ∧ setOf ks 0 = [0] := by
  have hl := (List.getElem?_eq_some_iff.mp k.hd).1
  exact ⟨.inr ⟨Int.le_refl _, by omega⟩, setOf_get (Int.le_refl _) k.hd⟩
theorem parts_iff (es : o1.sz = o2.sz) (k1 : KsI o1 ks1) (c1 : Closed o1 ks1 ks1.length) (k2 : KsI o2 ks2) (c2 : Closed o2 ks2 ks2.length) {m : Int} {w : Wrd} (hw : Wd (stepsOf o1) w) {last : Int} : PtP o1 o2 ks1 ks2 m (wk [0, 0] (nxP o1 o2 ks1 ks2) w) last ↔ PartsW o1 o2 m w last := by
  obtain ⟨i, j, e, _, s1, s2⟩ := walk_two es c1 c2 w 0 0 hw (num_zero k1).1 (num_zero k2).1
  have e' : wk [0, 0] (nxP o1 o2 ks1 ks2) w = [i, j] := e
  rw [(num_zero k1).2] at s1
  rw [(num_zero k2).2] at s2
  rw [e']
  unfold PtP PartsW setW
  show _ ∧ closesM o1 ks1 i last ≠ closesM o2 ks2 j last ↔ _
  rw [closes_set, closes_set, s1, s2]
theorem dead_nx {k st : List Int} (h : deadP k) : deadP (nxP o1 o2 ks1 ks2 k st) := by
  have h' : k = [-1, -1] := h
  subst h'
  have hb : ∀ (o : Ofc) (ks : List (List Int)), behindM o ks (-1) st = -1 := fun o ks => by
    unfold behindM
    exact if_neg fun z => absurd z.1 (by decide)
  show [behindM o1 ks1 (-1) st, behindM o2 ks2 (-1) st] = [-1, -1]
  rw [hb, hb]
theorem dead_pt {m : Int} {k : List Int} {last : Int} (h : deadP k) : ¬ PtP o1 o2 ks1 ks2 m k last := fun z => by
  have h' : k = [-1, -1] := h
  subst h'
  refine z.2 ?_
  show closesM o1 ks1 (-1) last = closesM o2 ks2 (-1) last
  rw [closes_set, closes_set, setOf_dead, setOf_dead]; rfl
theorem nx_dead {i j : Int} {st : List Int} (h : ¬ (Mv o1 ks1 i st ∨ Mv o2 ks2 j st)) : deadP [behindM o1 ks1 i st, behindM o2 ks2 j st] := by
  show [_, _] = [-1, -1]
  unfold behindM
  rw [if_neg (fun z => h (.inl z)), if_neg (fun z => h (.inr z))]
theorem nx_alive {i j : Int} {st : List Int} (h : Mv o1 ks1 i st ∨ Mv o2 ks2 j st) : ¬ deadP [behindM o1 ks1 i st, behindM o2 ks2 j st] := fun z => by
  have z' : [behindM o1 ks1 i st, behindM o2 ks2 j st] = [-1, -1] := z
  injection z' with z1 z2
  injection z2 with z2 _
  rcases h with h | h
  · unfold behindM at z1; rw [if_pos h] at z1; omega
  · unfold behindM at z2; rw [if_pos h] at z2; omega
theorem mem_parts {m : Int} {lay : Lay} {d : Day} : d ∈ partsM o1 o2 ks1 ks2 m lay ↔ ∃ x ∈ lay, d.1 = x.2 ∧ PtP o1 o2 ks1 ks2 m x.1 d.2 := by
  unfold partsM partsX
  rw [List.mem_flatMap]
  constructor
  · rintro ⟨x, hx, h⟩
    obtain ⟨last, hl, e⟩ := List.mem_filterMap.mp h
    obtain ⟨k, hk, rfl⟩ := List.mem_map.mp hl
    have hk' := List.mem_range.mp hk
    by_cases c : closesM o1 ks1 (x.1.getD 0 0) (Int.ofNat k) = closesM o2 ks2 (x.1.getD 1 0) (Int.ofNat k)
    · rw [if_pos c] at e; cases e
    · rw [if_neg c] at e
      cases e
      exact ⟨x, hx, rfl, ⟨by simp only [Int.ofNat_eq_natCast]; omega, by simp only [Int.ofNat_eq_natCast]; omega⟩, c⟩
  · rintro ⟨x, hx, e, ⟨h0, h1⟩, h2⟩
    refine ⟨x, hx, List.mem_filterMap.mpr ⟨d.2, List.mem_map.mpr ⟨d.2.toNat, List.mem_range.mpr (by omega), by simp only [Int.ofNat_eq_natCast]; omega⟩, ?_⟩⟩
    rw [if_neg h2, ← e]
end
end Fd
set_option Elab.async false
set_option linter.all false
set_option maxRecDepth 100000
set_option maxHeartbeats 4000000
namespace Fd
open PySem PySem.Spec PyProof.Rows L2
/-- None, or a day -/
def DayO : Rl (Option Day) := fun H v r => match r with
  | none => v = .non
  | some d => DayR H v d
/-- same_days of offices of like sizes whose readers have few sets -/
def sp_sameX (K : PySem.W.Frag) : Sp := fun xs H Q _ => ∃ po1 po2 o1 o2 C1 C2, xs = [.ref po1, .ref po2] ∧ (OC K C1 ∧ OfAt C1 H po1 o1 ∧ Wf o1) ∧ (OC K C2 ∧ OfAt C2 H po2 o2 ∧ Wf o2) ∧ o1.sz = o2.sz ∧ (¬ Over o1 ∧ ¬ Over o2) ∧
  ∀ v r H', Ke H H' → SD o1 o2 (stepsOf o1) (o1.sz.getD 2 0) r → DayO H' v r → Q v H'
section
variable {P : Program} {w : World} {K : PySem.W.Frag} {mg : Str → Option Value} {base : Heap} (T : Txt K mg) (Er : Err P K mg) (htop : (P.main.scope.names.lookup ("super" : Str)).isSome = false)
include T Er htop
theorem ok_same_days : FnOk P w K mg base (L2.CX P w) 9 T.a_same_days T.d_same_days P_same_days (sp_sameX K) := by
  refine T.F_same_days.okX sc_same_days (fun vs H Q E h => ?_) (fun cdv A outer s H vs Q E hr h => ?_)
  · obtain ⟨po1, po2, o1, o2, C1, C2, rfl, _⟩ := h; rfl
  · obtain ⟨po1, po2, o1, o2, C1, C2, rfl, ⟨oc1, of1, wf1⟩, ⟨oc2, of2, wf2⟩, esz, ⟨nov1, nov2⟩, k⟩ := h
    have ok_Editions_advance : ∀ _ : Txt K mg, FnOk P w K mg base CX0 2 T.a_Editions_advance T.d_Editions_advance P_Editions_advance (sp_advanceX T.a_Editions T.a_Reader) := fun _ => ok_Editions_advanceX T
    have tk : Takes (cxOf (L2.CX P w) P w K mg base N_same_days "same_days" (defScope s_same_days) T.a_same_days cdv A outer s H E) (fun cls d _ H' => E cls d H') := takes_of rfl rfl rfl rfl
    have pso := passes_of (X := cxOf (L2.CX P w) P w K mg base N_same_days "same_days" (defScope s_same_days) T.a_same_days cdv A outer s H E) rfl
    have ec := T.ec
    obtain ⟨dx1, vs1, vm1, vc1, l1, ds1, hp1, hs1, _⟩ := of1.ex
    obtain ⟨dx2, vs2, vm2, vc2, l2, ds2, hp2, hs2, _⟩ := of2.ex
    refine ⟨_, (pss_cons (ps_if (pt_cmpR (op_neD hr.units) (pe_fld (pv 0) rfl) (pe_fld (pv 1) rfl) (nomark _)) (pss_one (ps_raise rfl tk (pmk_own0 F.excBase_ValueError Er.x_OtherSizes Er.g_OtherSizes Er.k_OtherSizes (raises_own Er.s_OtherSizes Er.t_OtherSizes) rfl))) pss_nil)
  (pss_cons (ps_set (i := 2) sc_same_days.nd rfl (Or.inl rfl) (pe_make T.m_Editions (ok_Editions_init T Er htop) (hr.mono (by decide)) rfl T.g_Editions T.b_Editions_init .nil (passes_call tk fun _ _ _ _ h => h) (pa_cons (pv 0) (pa_cons (pv 1) pa_nil))))
  (pss_cons (ps_while pso (pt_cmpR op_gt (pe_callB call_len_dT (by rfl) T.n_len (by decide +kernel) (pa_cons (pe_fld (pv 2) rfl) pa_nil)) pe_int (nomark _)) (pss_cons (ps_set (i := 3) sc_same_days.nd rfl (Or.inl rfl) (pe_meth0 (pv 2) T.c_Editions T.t_Editions_parting (ok_Editions_parting T) (hr.mono (by decide)) T.b_Editions_parting .nil pass0))
  (pss_cons (ps_if (pt_cmpR op_notN (pv 3) pe_non (nomark _)) (pss_one (ps_ret (pv 3))) pss_nil)
  (pss_one (ps_expr (pe_meth0 (pv 2) T.c_Editions T.t_Editions_advance (ok_Editions_advance T) (hr.mono (by decide)) T.b_Editions_advance .nil pass0))))))
  (pss_one (ps_ret pe_non))))), ?_⟩
    refine ⟨_, rfl, po1, C1, dx1, _, _, rfl, hp1, oc1.c, oc1.n1, offF_s _ _ _ _, _, rfl, po2, C2, dx2, _, _, rfl, hp2, oc2.c, oc2.n1, offF_s _ _ _ _, tI o1.sz, tI o2.sz, TI.enc K H _ _ hs1, TI.enc K H _ _ hs2, shaped_tI _, shaped_tI _, _, rfl, ?_⟩
    rw [eqv_tI]
    rw [decide_eq_true esz]
    refine iteF ?_
    -- editions
    refine ⟨_, rfl, _, rfl, fun p dx hx hdx nx => ?_⟩
    have kA : Ke H (upd (upd H dx (.own p)) p (.ins T.a_Editions dx [])) := (Ke.new hdx).trans (Ke.new (by rw [upd_ne nx.symm]; exact hx))
    refine ⟨p, dx, po1, po2, o1, o2, C1, C2, rfl, upd_same, ⟨oc1, of1.ke kA, wf1⟩, ⟨oc2, of2.ke kA, wf2⟩, (fun ov d H' kk hd => absurd ov fun z => z.elim nov1 nov2), fun md ks1 ks2 H1 hmd ki1 cl1 ki2 cl2 kk ed => ⟨rfl, ?_⟩⟩
    have hmd0 : H md = none := kA.free hmd
    have k1 : Ke H H1 := Ke.then kA kk fun a z => by rw [z]; exact hx
    have hz1 : 0 < ks1.length := (List.getElem?_eq_some_iff.mp ki1.hd).1
    have hz2 : 0 < ks2.length := (List.getElem?_eq_some_iff.mp ki2.hd).1
    obtain ⟨sa, sb, sc, ez, _, _, hc1, hc2⟩ := wf1.sz
    have em : o1.sz.getD 2 0 = sc := by rw [ez]; rfl
    have L1 := ki1.le
    have L2 := ki2.le
    have bound : (ks1.length + 1) * (ks2.length + 1) ≤ 61 * 61 := Nat.mul_le_mul (by omega) (by omega)
    refine ⟨fun n σ H' => ∃ met lay, n = 2 * (61 * 61 - met.length) + (if lay.length = 0 then 0 else 1) ∧ EdAt T.a_Editions T.a_Reader H' p md o1 o2 ks1 ks2 (o1.sz.getD 2 0) met lay ∧ (∀ x ∈ lay, PairN ks1 ks2 x.1 ∧ x.2.length ≤ met.length) ∧ (∀ g ∈ met, PairN ks1 ks2 g) ∧ met.Nodup ∧ (∃ nb, BF [0, 0] (nxP o1 o2 ks1 ks2) (stepsOf o1) deadP (PtP o1 o2 ks1 ks2 (o1.sz.getD 2 0)) nb (· ∈ met) lay) ∧ Ke H H' ∧ ∃ s3, σ = [some (.ref po1), some (.ref po2), some (.ref p), s3],
      ⟨_, [[0, 0]], [([0, 0], [])], rfl, ed, ?_, ?_, by simp, ⟨0, BF.start (fun z => by have z' : ([0, 0] : List Int) = [-1, -1] := z; revert z'; decide) fun g => List.mem_singleton⟩, k1, _, rfl⟩, ?_⟩
    · intro x hx'
      rw [List.mem_singleton.mp hx']
      exact ⟨⟨0, 0, rfl, .inr ⟨by omega, by omega⟩, .inr ⟨by omega, by omega⟩⟩, by simp⟩
    · intro g hg
      rw [List.mem_singleton.mp hg]
      exact ⟨0, 0, rfl, .inr ⟨by omega, by omega⟩, .inr ⟨by omega, by omega⟩⟩
    · rintro n σ H2 ⟨met, lay, rfl, ed2, hlay, hmet, ndm, ⟨nb, bf⟩, k2, s3, rfl⟩
      have lmet : met.length ≤ 61 * 61 := Nat.le_trans (pairN_len ndm hmet) bound
      obtain ⟨dx', rt, x1, x2, ld, hp, tw, hmt, ⟨kvl, hld, pl, ndl⟩, nml⟩ := id ed2.ex
      have lpl := plen pl
      refine ⟨_, rfl, p, _, dx', _, _, rfl, hp, ec.c, ec.n4, edF_l _ _ _ _, ld, kvl, rfl, hld, _, _, rfl, rfl, _, rfl, ?_⟩
      refine ite2 (fun c => ?_) (fun c => ?_)
      · have hlt : 0 < lay.length := by have := of_decide_eq_true c; omega
        refine ⟨_, fun σ' H' h => h, ?_⟩
        -- parting
        refine ⟨_, rfl, p, dx', _, rfl, hp, edF_no _ _ _ _ (by decide +kernel) (by decide +kernel) (by decide +kernel) (by decide +kernel), p, md, o1, o2, ks1, ks2, _, met, lay, rfl, ed2, ⟨by rw [em]; omega, by rw [em]; omega⟩, ?len, fun x hx' => (hlay x hx').1, fun H3 k3 => ⟨fun e0 => ?non, fun v d0 ds dd e0 dm emin dr => ?day⟩⟩
        case len =>
          have h1 := pairN_len ndl (fun g hg => by
            obtain ⟨x, hx', e⟩ := List.mem_map.mp hg
            rw [← e]; exact (hlay x hx').1)
          rw [List.length_map] at h1
          exact Nat.le_trans (Nat.le_trans h1 bound) (by decide)
        case day =>
          have dr0 := dr
          obtain ⟨t, w0, rfl, _⟩ := dr
          refine ⟨_, rfl, rfl, _, rfl, ifNF (fun z => nomatch z) ?_⟩
          refine ⟨_, rfl, k _ (some dd) _ (k2.trans k3) ?_ dr0⟩
          have dpm : dd ∈ partsM o1 o2 ks1 ks2 (o1.sz.getD 2 0) lay := by rw [e0]; exact dm
          obtain ⟨x, hxl, ex, hpx⟩ := mem_parts.mp dpm
          have edd : dd = (x.2, dd.2) := Prod.ext ex rfl
          obtain ⟨b1, b2, b3, b4⟩ := bf.end_some (fun _ _ => dead_pt) hxl hpx fun y hy last hp => by
            rw [← edd]
            exact minD_least ds d0 dd emin _ (by rw [← e0]; exact mem_parts (d := (y.2, last)).mpr ⟨y, hy, rfl, hp⟩)
          rw [edd]
          exact ⟨b1, (parts_iff esz ki1 cl1 ki2 cl2 b1).mp b2, fun w hw hl last hp => b3 w hw hl last ((parts_iff esz ki1 cl1 ki2 cl2 hw).mpr hp), fun w last hw hl hp => b4 w last hw hl ((parts_iff esz ki1 cl1 ki2 cl2 hw).mpr hp)⟩
        refine ⟨_, rfl, rfl, _, rfl, ifNT rfl ?_⟩
        -- advance
        have ed3 : EdAt T.a_Editions T.a_Reader H3 p md o1 o2 ks1 ks2 (o1.sz.getD 2 0) met lay := by
          obtain ⟨kvm, z1, z2, z3⟩ := hmt
          exact ⟨dx', rt, x1, x2, ld, k3.at hp, tw.ke (Hd.ke k3.ks), ⟨kvm, k3.at z1, z2, z3⟩, ⟨kvl, k3.at hld, pimp (fun a b r => ⟨r.1, SS.stb _ _ _ _ k3.tx r.2⟩) pl, ndl⟩, nml⟩
        refine ⟨_, rfl, p, dx', _, rfl, k3.at hp, edF_no _ _ _ _ (by decide +kernel) (by decide +kernel) (by decide +kernel) (by decide +kernel), p, md, o1, o2, ks1, ks2, _, met, lay, rfl, ed3, ⟨wf1, cl1, by omega⟩, ⟨wf2, cl2, by omega⟩, fun x hx' => ?_, hmet, fun met' lay' H4 lok sen mm nd' ln k4 ed4 => ?_⟩
        · obtain ⟨⟨i, j, e, r1, r2⟩, l⟩ := hlay x hx'
          exact ⟨⟨i, j, e, r1, r2⟩, by omega⟩
        have hlay' : ∀ x ∈ lay', PairN ks1 ks2 x.1 ∧ x.2.length ≤ met'.length := fun x hx' => by
          obtain ⟨_, pn, y, hy, st, i, j, ey, hmv, ex⟩ := lok.ok x hx'
          have l := (hlay y hy).2
          have lp := List.length_pos_of_mem hx'
          refine ⟨pn, ?_⟩
          rw [ex]
          show (y.2 ++ [st]).length ≤ _
          rw [List.length_append, List.length_singleton]; omega
        have hmet' : ∀ g ∈ met', PairN ks1 ks2 g := fun g hg => by
          rcases (mm g).mp hg with z | z
          · exact hmet g z
          · obtain ⟨x, hx', e⟩ := List.mem_map.mp z
            rw [← e]; exact (lok.ok x hx').2.1
        have lmet' : met'.length ≤ 61 * 61 := Nat.le_trans (pairN_len nd' hmet') bound
        have bf' : BF [0, 0] (nxP o1 o2 ks1 ks2) (stepsOf o1) deadP (PtP o1 o2 ks1 ks2 (o1.sz.getD 2 0)) (nb + 1) (· ∈ met') lay' := by
          refine bf.step (fun _ _ _ h => dead_nx h) (fun x hxl last hp => ?_) (fun _ _ => dead_pt) lok.nd (fun x hxl => ?_) (fun y hy st hst hm hd => ?_) fun g => ?_
          · have := mem_parts (d := (x.2, last)).mpr ⟨x, hxl, rfl, hp⟩
            rw [e0] at this; cases this
          · obtain ⟨nm, pn, y, hy, st, i, j, ey, hmv, ex⟩ := lok.ok x hxl
            refine ⟨nm, by rw [ex]; exact nx_alive hmv, y, hy, st, ?_, ?_⟩
            · rcases hmv with z | z
              · exact z.2.choose_spec.2.1
              · rw [steps_eq esz]; exact z.2.choose_spec.2.1
            · rw [ex]; unfold nxP; rw [ey]; rfl
          · obtain ⟨⟨i, j, ey, _, _⟩, _⟩ := hlay y hy
            have en : nxP o1 o2 ks1 ks2 y.1 st = [behindM o1 ks1 i st, behindM o2 ks2 j st] := by unfold nxP; rw [ey]; rfl
            rw [en] at hm hd ⊢
            exact sen y st i j hy ey (Classical.byContradiction fun z => hd (nx_dead z)) hm
          · rw [mm]
            constructor
            · rintro (z | z)
              · exact .inl z
              · obtain ⟨x, hx', e⟩ := List.mem_map.mp z
                exact .inr ⟨x, hx', e⟩
            · rintro (z | ⟨x, hx', e⟩)
              · exact .inl z
              · exact .inr (List.mem_map.mpr ⟨x, hx', e⟩)
        refine ⟨_, ?_, met', lay', rfl, ed4, hlay', hmet', nd', ⟨_, bf'⟩, ?_, _, rfl⟩
        · have h1 : (if lay.length = 0 then 0 else 1) = 1 := if_neg (by omega)
          rw [h1]
          by_cases z : lay'.length = 0
          · rw [if_pos z]; omega
          · rw [if_neg z]; omega
        · exact Ke.then (k2.trans k3) k4 fun a z => z.elim (fun z => by rw [z]; exact hx) fun z => by rw [z]; exact hmd0
      · refine k _ none H2 k2 ?_ rfl
        have l0 : lay = [] := by
          have c' := mt (decide_eq_true (p := (kvl.length : Int) > 0)) c
          exact List.length_eq_zero_iff.mp (by omega)
        rw [l0] at bf
        exact fun w hw last hp => bf.end_none (fun _ _ _ h => dead_nx h) (fun _ _ => dead_pt) w hw last ((parts_iff esz ki1 cl1 ki2 cl2 hw).mpr hp)
end
end Fd
set_option Elab.async false
set_option linter.all false
set_option maxRecDepth 100000
set_option maxHeartbeats 4000000
namespace Fd
open PySem PySem.Spec PyProof.Rows L2
theorem p629 : (0 : Int) < 2147483629 := by decide
theorem p647 : (0 : Int) < 2147483647 := by decide
theorem p399 : (0 : Int) < 2147483399 := by decide
abbrev hand5 (ca : Addr) (i b s c : Int) : List V := [.ref ca, .int i, .int b, .int s, .int c]
/-- the drawing hand at hd, its numbers at ca -/
def HandAt (H : Hp) (hd ca : Addr) : Prop := ∃ (cells : List Int) (i b s c : Int), H hd = some (.lst (hand5 ca i b s c)) ∧ H ca = some (.lst (cells.map V.int)) ∧ 0 ≤ i
theorem HandAt.ne {H : Hp} {hd ca : Addr} (x : HandAt H hd ca) : ca ≠ hd := by
  obtain ⟨cells, i, b, s, c, h1, h2, _⟩ := x
  intro e
  rw [e, h1] at h2
  injection h2 with h2
  injection h2 with h2
  cases cells with
  | nil => cases h2
  | cons y r => injection h2 with h2; cases h2
theorem HandAt.ke {H H' : Hp} {hd ca : Addr} (x : HandAt H hd ca) (k : Ke H H') : HandAt H' hd ca := by
  obtain ⟨cells, i, b, s, c, h1, h2, h3⟩ := x
  exact ⟨cells, i, b, s, c, k.at h1, k.at h2, h3⟩
theorem HandAt.mut {H : Hp} {hd ca a : Addr} {o : HO} (x : HandAt H hd ca) (n1 : a ≠ hd) (n2 : a ≠ ca) : HandAt (upd H a o) hd ca := by
  obtain ⟨cells, i, b, s, c, h1, h2, h3⟩ := x
  exact ⟨cells, i, b, s, c, by rw [upd_ne n1.symm]; exact h1, by rw [upd_ne n2.symm]; exact h2, h3⟩
theorem HandAt.there {H : Hp} {hd ca : Addr} (x : HandAt H hd ca) : H hd ≠ none ∧ H ca ≠ none := by
  obtain ⟨cells, i, b, s, c, h1, h2, h3⟩ := x
  rw [h1, h2]; simp
theorem HandAt.tx {H : Hp} {hd ca : Addr} (x : HandAt H hd ca) : Tx H (Hd (fun a => a = hd) H) := by
  obtain ⟨cells, i, b, s, c, h1, _⟩ := x
  exact ⟨fun a xs h => Hd.get (fun e => by rw [e, h1] at h; cases h) h⟩
theorem HandAt.ks {S : Addr → Prop} {H H' : Hp} {hd ca : Addr} (x : HandAt H hd ca) (k : Ks S H H') (n1 : ¬ S hd) (n2 : ¬ S ca) : HandAt H' hd ca := by
  obtain ⟨cells, i, b, s, c, h1, h2, h3⟩ := x
  exact ⟨cells, i, b, s, c, k.keep _ _ n1 h1, k.keep _ _ n2 h2, h3⟩
def sp_draw : Sp := fun xs H Q _ => ∃ hd ca many, xs = [.ref hd, .int many] ∧ HandAt H hd ca ∧ (1 ≤ many ∧ many ≤ 1000) ∧ ∀ r H', 0 ≤ r → r < many → Ks (fun a => a = hd) H H' → HandAt H' hd ca → Q (.int r) H'
def sp_hand (K : PySem.W.Frag) : Sp := fun xs H Q _ => ∃ (a : Addr) (ns : List Int), xs = [.ref a] ∧ SqL K H a (ns.map V.int) ∧ ns.length ≤ 63 ∧ ∀ hd ca H', H hd = none → H ca = none → Ke H H' → HandAt H' hd ca → Q (.ref hd) H'
def sp_sizes : Sp := fun xs H Q _ => ∃ hd ca most, xs = [.ref hd, .int most] ∧ HandAt H hd ca ∧ (1 ≤ most ∧ most ≤ 1000) ∧ ∀ v a b c H', (1 ≤ a ∧ a ≤ most) → (1 ≤ b ∧ b ≤ most) → (1 ≤ c ∧ c ≤ most) → Ks (fun a => a = hd) H H' → HandAt H' hd ca → TI H' v [a, b, c] → Q v H'
section
variable {P : Program} {w : World} {K : PySem.W.Frag} {mg : Str → Option Value} {base : Heap} (T : Txt K mg)
include T
theorem ok_l_draw : FnOk P w K mg base CX0 1 T.a_l_draw T.d_l_draw P_l_draw sp_draw := by
  refine T.F_l_draw.ok sc_l_draw (fun vs H Q E h => ?_) (fun cdv A outer s H vs Q E hr h => ?_)
  · obtain ⟨hd, ca, many, rfl, _⟩ := h; rfl
  · obtain ⟨hd, ca, many, rfl, hA, hm, k⟩ := h
    have hne := hA.ne
    obtain ⟨cells, i, b, s0, c, hh, hca, hi⟩ := hA
    refine ⟨_, (pss_cons (ps_if (PW.pt (pw_and (pt_cmpR op_eq (pe_ix ix_list (pv 0) pe_int (fun _ _ => rfl)) pe_int (nomark _)) (pw_and1 (pt_cmpR op_lt (pe_ix ix_list (pv 0) pe_int (fun _ _ => rfl)) (pe_callB call_len (by rfl) T.n_len (by decide +kernel) (pa_cons (pe_ix ix_list (pv 0) pe_int (fun _ _ => rfl)) pa_nil)) (nomark _))))) (pss_cons (ps_set (i := 2) sc_l_draw.nd rfl (Or.inl rfl) (pe_ix ix_list (pe_ix ix_list (pv 0) pe_int (fun _ _ => rfl)) (pe_ix ix_list (pv 0) pe_int (fun _ _ => rfl)) (fun _ _ => rfl)))
  (pss_cons (ps_asg (pe_op op_add (pe_ix ix_list (pv 0) pe_int (fun _ _ => rfl)) pe_int) (pg_sub (pv 0) pe_int set_list))
  (pss_cons (ps_asg (pe_op op_mod (pe_callTy call_int1 (by rfl) T.n_int (by decide +kernel) (pa_cons (pe_op op_add (pe_op op_add (pe_op op_mul (pe_ix ix_list (pv 0) pe_int (fun _ _ => rfl)) pe_int) (pv 2)) pe_int) pa_nil)) pe_int) (pg_sub (pv 0) pe_int set_list))
  (pss_one (ps_if (pt_cmpR op_ge (pv 2) (pe_op op_pow pe_int pe_int) (nomark _)) (pss_one (ps_asg (pv 2) (pg_sub (pv 0) pe_int set_list))) pss_nil))))) pss_nil)
  (pss_cons (ps_if (pt_cmpR op_gt (pe_ix ix_list (pv 0) pe_int (fun _ _ => rfl)) pe_int (nomark _)) (pss_cons (ps_set (i := 3) sc_l_draw.nd rfl (Or.inl rfl) (pe_op op_mod (pe_callTy call_int1 (by rfl) T.n_int (by decide +kernel) (pa_cons (pe_ix ix_list (pv 0) pe_int (fun _ _ => rfl)) pa_nil)) (pv 1)))
  (pss_cons (ps_asg (pe_op op_fdiv (pe_ix ix_list (pv 0) pe_int (fun _ _ => rfl)) (pv 1)) (pg_sub (pv 0) pe_int set_list))
  (pss_one (ps_ret (pv 3))))) pss_nil)
  (pss_cons (ps_asg (pe_op op_add (pe_ix ix_list (pv 0) pe_int (fun _ _ => rfl)) pe_int) (pg_sub (pv 0) pe_int set_list))
  (pss_cons (ps_set (i := 4) sc_l_draw.nd rfl (Or.inl rfl) (pe_op op_mod (pe_callTy call_int1 (by rfl) T.n_int (by decide +kernel) (pa_cons (pe_op op_mul (pe_callTy call_int1 (by rfl) T.n_int (by decide +kernel) (pa_cons (pe_op op_add (pe_ix ix_list (pv 0) pe_int (fun _ _ => rfl)) (pe_op op_mul pe_int (pe_ix ix_list (pv 0) pe_int (fun _ _ => rfl)))) pa_nil)) pe_int) pa_nil)) pe_int))
  (pss_cons (ps_set (i := 4) sc_l_draw.nd rfl (Or.inl rfl) (pe_op op_mod (pe_callTy call_int1 (by rfl) T.n_int (by decide +kernel) (pa_cons (pe_op op_mul (pv 4) (pe_op op_add (pe_op op_fdiv (pv 4) pe_int) pe_int)) pa_nil)) pe_int))
  (pss_cons (ps_set (i := 4) sc_l_draw.nd rfl (Or.inl rfl) (pe_op op_mod (pe_callTy call_int1 (by rfl) T.n_int (by decide +kernel) (pa_cons (pe_op op_mul (pv 4) (pe_op op_add (pe_op op_fdiv (pv 4) pe_int) pe_int)) pa_nil)) pe_int))
  (pss_one (ps_ret (pe_op op_mod (pe_callTy call_int1 (by rfl) T.n_int (by decide +kernel) (pa_cons (pe_op op_fdiv (pv 4) pe_int) pa_nil)) (pv 1)))))))))), ?_⟩
    refine ⟨_, rfl, hd, _, 2, _, rfl, rfl, SqL.of hh, rfl, rfl, _, rfl, ?_⟩
    have four : ¬ b = 0 ∨ (b = 0 ∧ ¬ i < cells.length) ∨ (b = 0 ∧ i < cells.length ∧ 10 ^ 18 ≤ cells.getD i.toNat 0) ∨ (b = 0 ∧ i < cells.length ∧ ¬ 10 ^ 18 ≤ cells.getD i.toNat 0) := by
      by_cases h1 : b = 0
      · by_cases h2 : i < cells.length
        · by_cases h3 : 10 ^ 18 ≤ cells.getD i.toNat 0
          · exact .inr (.inr (.inl ⟨h1, h2, h3⟩))
          · exact .inr (.inr (.inr ⟨h1, h2, h3⟩))
        · exact .inr (.inl ⟨h1, h2⟩)
      · exact .inl h1
    have lc : ∀ l : List Int, (l.map V.int).length = l.length := fun l => List.length_map _
    have cell : i < cells.length → atI (cells.map V.int) i = some (.int (cells.getD i.toNat 0)) := fun h => by
      refine atI_nat (i := i.toNat) ?_ (by omega)
      rw [List.getElem?_map, List.getElem?_eq_getElem (by omega), List.getD_eq_getElem?_getD, List.getElem?_eq_getElem (by omega)]; rfl
    have nt : ∀ {H' : Hp} {xs : List V}, H' hd = some (.lst xs) → ∀ ys, H' hd ≠ some (.tup ys) := fun h ys z => by rw [h] at z; cases z
    rcases four with h4 | h4 | h4 | h4
    case' inl =>
      refine ifF (fun z => h4 (by injection z)) ?_
      have F : ∃ (i b s c : Int), Ks (fun a => a = hd) H H ∧ H hd = some (.lst (hand5 ca i b s c)) ∧ H ca = some (.lst (cells.map V.int)) ∧ 0 ≤ i := ⟨i, b, s0, c, .refl, hh, hca, hi⟩
    case' inr.inl =>
      refine ifT (by rw [h4.1]) ⟨_, rfl, hd, _, 1, _, rfl, rfl, SqL.of hh, rfl, _, rfl, hd, _, 0, _, rfl, rfl, SqL.of hh, rfl, .ref ca, _, rfl, .inl ⟨_, SqL.of hca, rfl⟩, _, _, rfl, rfl, _, rfl, ifF (by rw [lc]; exact h4.2) ?_⟩
      have F : ∃ (i b s c : Int), Ks (fun a => a = hd) H H ∧ H hd = some (.lst (hand5 ca i b s c)) ∧ H ca = some (.lst (cells.map V.int)) ∧ 0 ≤ i := ⟨i, b, s0, c, .refl, hh, hca, hi⟩
    case' inr.inr.inl =>
      refine ifT (by rw [h4.1]) ⟨_, rfl, hd, _, 1, _, rfl, rfl, SqL.of hh, rfl, _, rfl, hd, _, 0, _, rfl, rfl, SqL.of hh, rfl, .ref ca, _, rfl, .inl ⟨_, SqL.of hca, rfl⟩, _, _, rfl, rfl, _, rfl, ifT (by rw [lc]; exact h4.2.1) ?_⟩
      refine ⟨_, rfl, hd, _, 0, _, rfl, rfl, SqL.of hh, rfl, _, rfl, hd, _, 1, _, rfl, rfl, SqL.of hh, rfl, ca, _, i, _, rfl, rfl, SqL.of hca, cell h4.2.1, ?_⟩
      refine ⟨_, rfl, hd, _, 1, _, rfl, rfl, SqL.of hh, rfl, _, _, rfl, rfl, _, rfl, hd, _, 1, 1, rfl, rfl, hh, rfl, ?_⟩
      refine ⟨_, rfl, hd, _, 3, _, rfl, rfl, SqL.of upd_same, rfl, _, _, rfl, rfl, .inr ⟨by decide, by decide⟩, _, rfl, _, _, rfl, rfl, _, _, rfl, rfl, .inl ⟨_, rfl, _, _, rfl, rfl, p629, _, rfl, hd, _, 3, 3, rfl, rfl, upd_same, rfl, ?_⟩⟩
      refine ⟨_, rfl, _, _, rfl, rfl, ⟨by decide, by decide, by decide⟩, _, _, rfl, rfl, _, rfl, ifT h4.2.2 ?_⟩
      refine ⟨_, rfl, _, rfl, hd, _, 2, 2, rfl, rfl, upd_same, rfl, ?_⟩
      rw [upd_upd, upd_upd]
      have F : ∃ (i' b' s' c' : Int), Ks (fun a => a = hd) H (upd H hd (.lst (hand5 ca (i + 1) (cells.getD i.toNat 0) ((s0 * 69621 + cells.getD i.toNat 0 + 11) % 2147483629) c))) ∧ (upd H hd (.lst (hand5 ca (i + 1) (cells.getD i.toNat 0) ((s0 * 69621 + cells.getD i.toNat 0 + 11) % 2147483629) c))) hd = some (.lst (hand5 ca i' b' s' c')) ∧ (upd H hd (.lst (hand5 ca (i + 1) (cells.getD i.toNat 0) ((s0 * 69621 + cells.getD i.toNat 0 + 11) % 2147483629) c))) ca = some (.lst (cells.map V.int)) ∧ 0 ≤ i' :=
        ⟨i + 1, cells.getD i.toNat 0, (s0 * 69621 + cells.getD i.toNat 0 + 11) % 2147483629, c, Ks.mut .refl rfl (nt hh), upd_same, by rw [upd_ne hne]; exact hca, by omega⟩
    case' inr.inr.inr =>
      refine ifT (by rw [h4.1]) ⟨_, rfl, hd, _, 1, _, rfl, rfl, SqL.of hh, rfl, _, rfl, hd, _, 0, _, rfl, rfl, SqL.of hh, rfl, .ref ca, _, rfl, .inl ⟨_, SqL.of hca, rfl⟩, _, _, rfl, rfl, _, rfl, ifT (by rw [lc]; exact h4.2.1) ?_⟩
      refine ⟨_, rfl, hd, _, 0, _, rfl, rfl, SqL.of hh, rfl, _, rfl, hd, _, 1, _, rfl, rfl, SqL.of hh, rfl, ca, _, i, _, rfl, rfl, SqL.of hca, cell h4.2.1, ?_⟩
      refine ⟨_, rfl, hd, _, 1, _, rfl, rfl, SqL.of hh, rfl, _, _, rfl, rfl, _, rfl, hd, _, 1, 1, rfl, rfl, hh, rfl, ?_⟩
      refine ⟨_, rfl, hd, _, 3, _, rfl, rfl, SqL.of upd_same, rfl, _, _, rfl, rfl, .inr ⟨by decide, by decide⟩, _, rfl, _, _, rfl, rfl, _, _, rfl, rfl, .inl ⟨_, rfl, _, _, rfl, rfl, p629, _, rfl, hd, _, 3, 3, rfl, rfl, upd_same, rfl, ?_⟩⟩
      refine ⟨_, rfl, _, _, rfl, rfl, ⟨by decide, by decide, by decide⟩, _, _, rfl, rfl, _, rfl, ifF h4.2.2 ?_⟩
      rw [upd_upd]
      have F : ∃ (i' b' s' c' : Int), Ks (fun a => a = hd) H (upd H hd (.lst (hand5 ca (i + 1) b ((s0 * 69621 + cells.getD i.toNat 0 + 11) % 2147483629) c))) ∧ (upd H hd (.lst (hand5 ca (i + 1) b ((s0 * 69621 + cells.getD i.toNat 0 + 11) % 2147483629) c))) hd = some (.lst (hand5 ca i' b' s' c')) ∧ (upd H hd (.lst (hand5 ca (i + 1) b ((s0 * 69621 + cells.getD i.toNat 0 + 11) % 2147483629) c))) ca = some (.lst (cells.map V.int)) ∧ 0 ≤ i' :=
        ⟨i + 1, b, (s0 * 69621 + cells.getD i.toNat 0 + 11) % 2147483629, c, Ks.mut .refl rfl (nt hh), upd_same, by rw [upd_ne hne]; exact hca, by omega⟩
    all_goals
      obtain ⟨i1, b1, s1, c1, kk, hh1, hca1, hi1⟩ := F
      refine ⟨_, rfl, hd, _, 2, _, rfl, rfl, SqL.of hh1, rfl, _, _, rfl, rfl, _, rfl, ?_⟩
      by_cases hb : 0 < b1
      · refine ifT hb ⟨_, rfl, hd, _, 2, _, rfl, rfl, SqL.of hh1, rfl, .inl ⟨_, rfl, _, rfl, _, _, rfl, rfl, (by show 0 < many; omega), ?_⟩⟩
        refine ⟨_, rfl, hd, _, 2, _, rfl, rfl, SqL.of hh1, rfl, _, rfl, _, _, rfl, rfl, ⟨by omega, by omega⟩, _, rfl, hd, _, 2, 2, rfl, rfl, hh1, rfl, ?_⟩
        exact ⟨_, rfl, k _ _ (Int.emod_nonneg _ (by omega)) (Int.emod_lt_of_pos _ (by omega)) (kk.mut rfl (nt hh1)) ⟨cells, i1, b1 / many, s1, c1, upd_same, by rw [upd_ne hne]; exact hca1, hi1⟩⟩
      · refine ifF hb ?_
        refine ⟨_, rfl, hd, _, 4, _, rfl, rfl, SqL.of hh1, rfl, _, _, rfl, rfl, _, rfl, hd, _, 4, 4, rfl, rfl, hh1, rfl, ?_⟩
        refine ⟨_, rfl, hd, _, 3, _, rfl, rfl, SqL.of upd_same, rfl, _, rfl, hd, _, 4, _, rfl, rfl, SqL.of upd_same, rfl, _, _, rfl, rfl, .inl ⟨by decide, by decide⟩, _, _, rfl, rfl, .inl ⟨_, rfl, _, _, rfl, rfl, .inr ⟨by decide, by decide⟩, .inl ⟨_, rfl, _, _, rfl, rfl, p647, ?_⟩⟩⟩
        have e1 := Int.emod_nonneg ((s1 + 7919 * (c1 + 1)) * 48271) (show (2147483647 : Int) ≠ 0 by decide)
        have e2 := Int.emod_lt_of_pos ((s1 + 7919 * (c1 + 1)) * 48271) (show (0 : Int) < 2147483647 by decide)
        generalize ((s1 + 7919 * (c1 + 1)) * 48271) % 2147483647 = n1 at e1 e2
        refine ⟨_, rfl, _, rfl, _, _, rfl, rfl, ⟨by decide, by decide⟩, _, _, rfl, rfl, _, _, rfl, rfl, .inl ⟨by omega, by omega⟩, .inl ⟨_, rfl, _, _, rfl, rfl, p647, ?_⟩⟩
        have e3 := Int.emod_nonneg (n1 * (n1 / 1009 + 69621)) (show (2147483647 : Int) ≠ 0 by decide)
        have e4 := Int.emod_lt_of_pos (n1 * (n1 / 1009 + 69621)) (show (0 : Int) < 2147483647 by decide)
        generalize (n1 * (n1 / 1009 + 69621)) % 2147483647 = n2 at e3 e4
        refine ⟨_, rfl, _, rfl, _, _, rfl, rfl, ⟨by decide, by decide⟩, _, _, rfl, rfl, _, _, rfl, rfl, .inl ⟨by omega, by omega⟩, .inl ⟨_, rfl, _, _, rfl, rfl, p399, ?_⟩⟩
        refine ⟨_, rfl, _, _, rfl, rfl, ⟨by decide, by decide⟩, .inl ⟨_, rfl, _, rfl, _, _, rfl, rfl, (by show 0 < many; omega), ?_⟩⟩
        exact k _ _ (Int.emod_nonneg _ (by omega)) (Int.emod_lt_of_pos _ (by omega)) (kk.mut rfl (nt hh1)) ⟨cells, i1, b1, s1, c1 + 1, upd_same, by rw [upd_ne hne]; exact hca1, hi1⟩
theorem ok_l_hand : FnOk P w K mg base CX0 1 T.a_l_hand T.d_l_hand P_l_hand (sp_hand K) := by
  refine T.F_l_hand.ok sc_l_hand (fun vs H Q E h => ?_) (fun cdv A outer s H vs Q E hr h => ?_)
  · obtain ⟨a, ns, rfl, _⟩ := h; rfl
  · obtain ⟨a, ns, rfl, hs, hl, k⟩ := h
    refine ⟨_, (pss_cons (ps_setLc (i := 1) (own := [("_law_cell", 2)]) rfl sc_l_hand.nd rfl rfl (sw_true rfl rfl rfl (by decide +kernel)) (pi_list (pe_slice sl_list (pv 0) po_none (po_some pe_int))) (blkOk_by (own := [("_law_cell", 2)]) (N := N_l_hand) (sc := defScope s_l_hand) (by decide +kernel)) (fun _ _ _ _ _ => (pg_name (i := 2) sc_l_hand.nd rfl (Or.inl rfl))) (fun _ _ _ _ _ => pts_nil) (fun _ _ _ _ _ => (pe_callB call_abs (by rfl) T.n_abs (by decide +kernel) (pa_cons (pe_callTy call_int1 (by rfl) T.n_int (by decide +kernel) (pa_cons (pv 2) pa_nil)) pa_nil))))
  (pss_one (ps_ret (pe_lst (pa_cons (pv 1) (pa_cons pe_int (pa_cons pe_int (pa_cons (pe_op op_add pe_int (pe_callB call_len (by rfl) T.n_len (by decide +kernel) (pa_cons (pv 1) pa_nil))) (pa_cons pe_int pa_nil))))))))), ?_⟩
    have ec : cutV (ns.map V.int) none (some 63) = ((ns.drop (HT.sIx ns.length 0 none)).take (HT.sIx ns.length ns.length (some 63) - HT.sIx ns.length 0 none)).map V.int := by
      unfold cutV
      rw [List.length_map, ← List.map_drop, ← List.map_take]
    generalize hcs : ((ns.drop (HT.sIx ns.length 0 none)).take (HT.sIx ns.length ns.length (some 63) - HT.sIx ns.length 0 none)) = cs at ec
    have lcs : cs.length ≤ 63 := by
      rw [← hcs]
      refine Nat.le_trans (List.length_take_le _ _) ?_
      have h63 : HT.sIx ns.length ns.length (some 63) ≤ 63 := by
        show (if (63 : Int) < 0 then ((63 : Int) + (ns.length : Int)).toNat else min (63 : Int).toNat ns.length) ≤ 63
        rw [if_neg (by decide)]
        exact Nat.min_le_left _ _
      omega
    refine ⟨_, rfl, 63, rfl, a, _, rfl, hs, fun p hp => ?_⟩
    rw [ec]
    have k0 : Ke H (upd H p (.lst (cs.map V.int))) := Ke.new hp
    refine ⟨p, rfl, ⟨_, SqL.of upd_same⟩, fun D hD => ?_⟩
    have nDp : D ≠ p := fun z => by rw [z, upd_same] at hD; cases hD
    refine lw_L (R := II H) (fun d H' => Ke H H' ∧ H' p = some (.lst (cs.map V.int)) ∧ H' D = some (.lst ((d.map fun x : Int => if x < 0 then -x else x).map V.int))) (pmap_int cs) ⟨k0.trans (Ke.new hD), by rw [upd_ne nDp.symm, upd_same], upd_same⟩ (fun d H' q => q.2.1) ?_ ?_
    · rintro d x r v H1 e rfl ⟨k1, hp1, hD1⟩
      refine ⟨rfl, _, rfl, .inl ⟨_, rfl, _, rfl, _, hD1, ?_, k1.mutNew (k0.free hD), by rw [upd_ne nDp.symm]; exact hp1, ?_⟩⟩
      · rw [List.length_map, List.length_map, sizeLine_eq]
        rw [e] at lcs; simp at lcs; omega
      · rw [upd_same]; simp
    · rintro H1 ⟨k1, hp1, hD1⟩
      refine ⟨_, rfl, _, rfl, .ref D, _, rfl, .inl ⟨_, SqL.of hD1, rfl⟩, _, _, rfl, rfl, (by show 5 ≤ sizeLine; decide), fun hd hhd => ?_⟩
      exact k hd D _ (k1.free hhd) (k0.free hD) (k1.trans (Ke.new hhd)) ⟨_, 0, 0, _, 0, upd_same, (Ke.new hhd).at hD1, by omega⟩
theorem ok_l_sizes : FnOk P w K mg base CX0 2 T.a_l_sizes T.d_l_sizes P_l_sizes sp_sizes := by
  refine T.F_l_sizes.ok sc_l_sizes (fun vs H Q E h => ?_) (fun cdv A outer s H vs Q E hr h => ?_)
  · obtain ⟨hd, ca, most, rfl, _⟩ := h; rfl
  · obtain ⟨hd, ca, most, rfl, hA, hm, k⟩ := h
    refine ⟨_, (pss_one (ps_ret (pe_tup (pa_cons (pe_op op_add pe_int (pe_call (ok_l_draw T) (hr.mono (by decide)) rfl T.g_l_draw T.k_l_draw T.b_l_draw .nil pass0 (pa_cons (pv 0) (pa_cons (pv 1) pa_nil)))) (pa_cons (pe_op op_add pe_int (pe_call (ok_l_draw T) (hr.mono (by decide)) rfl T.g_l_draw T.k_l_draw T.b_l_draw .nil pass0 (pa_cons (pv 0) (pa_cons (pv 1) pa_nil)))) (pa_cons (pe_op op_add pe_int (pe_call (ok_l_draw T) (hr.mono (by decide)) rfl T.g_l_draw T.k_l_draw T.b_l_draw .nil pass0 (pa_cons (pv 0) (pa_cons (pv 1) pa_nil)))) pa_nil)))))), ?_⟩
    refine ⟨_, rfl, _, rfl, hd, ca, most, rfl, hA, hm, fun r1 H1 a1 b1 k1 hA1 => ⟨_, _, rfl, rfl, ?_⟩⟩
    refine ⟨_, rfl, _, rfl, hd, ca, most, rfl, hA1, hm, fun r2 H2 a2 b2 k2 hA2 => ⟨_, _, rfl, rfl, ?_⟩⟩
    refine ⟨_, rfl, _, rfl, hd, ca, most, rfl, hA2, hm, fun r3 H3 a3 b3 k3 hA3 => ⟨_, _, rfl, rfl, (by show 3 ≤ sizeLine; decide), fun t ht => ?_⟩⟩
    exact k _ _ _ _ _ ⟨by omega, by omega⟩ ⟨by omega, by omega⟩ ⟨by omega, by omega⟩ (((k1.trans k2).trans k3).trans (Ke.new ht).ks) (hA3.ke (Ke.new ht)) ⟨t, rfl, upd_same⟩
end
end Fd
set_option Elab.async false
set_option linter.all false
set_option maxRecDepth 100000
set_option maxHeartbeats 4000000
namespace Fd
open PySem PySem.Spec PyProof.Rows L2
/-- the rows that are drawn: right, and short -/
def RowsOk (sz : List Int) (many : Int) (mv : List (List (List Int))) : Prop := ∀ r ∈ mv, RowOk sz many r ∧ r.length ≤ 6
def sp_lmoves : Sp := fun xs H Q _ => ∃ hd ca u a b c many, xs = [.ref hd, u, .int many] ∧ HandAt H hd ca ∧ TI H u [a, b, c] ∧ (1 ≤ a ∧ a ≤ 4) ∧ (1 ≤ b ∧ b ≤ 4) ∧ (1 ≤ c ∧ c ≤ 4) ∧ (1 ≤ many ∧ many ≤ 20) ∧
  ∀ v mv H', Ks (fun x => x = hd) H H' → HandAt H' hd ca → MV H' v mv → (mv.length : Int) = many → RowsOk [a, b, c] many mv → Q v H'
/-- the moves drawn so far, as the keys of a dict -/
structure RD (H : Hp) (d : Addr) (sz : List Int) (many : Int) (n : Nat) (kvs : List (List Key × V)) (ks : List (List Int)) : Prop where
  at_ : H d = some (.dT kvs)
  ke : kvs.map (·.1) = ks.map keyI
  nd : ks.Nodup
  ok : ∀ m ∈ ks, MoveOk sz many m
  len : ks.length ≤ n
theorem RD.put {H : Hp} {d : Addr} {sz : List Int} {many : Int} {n : Nat} {kvs : List (List Key × V)} {ks : List (List Int)} {m : List Int} {v : V} {H' : Hp} (x : RD H d sz many n kvs ks) (hm : MoveOk sz many m) : RD (upd H' d (.dT (putK kvs (keyI m) v))) d sz many (n + 1) (putK kvs (keyI m) v) (addk ks m) where
  at_ := upd_same
  ke := keys_put keyI (fun _ _ z => keyI_inj z) x.ke
  nd := addk_nodup x.nd
  ok := fun z hz => (mem_addk.mp hz).elim (x.ok z) fun e => by rw [e]; exact hm
  len := by
    have := x.len
    unfold addk
    split
    · omega
    · rw [List.length_append, List.length_singleton]; omega
section
variable {P : Program} {w : World} {K : PySem.W.Frag} {mg : Str → Option Value} {base : Heap} (T : Txt K mg)
include T
theorem ok_l_moves : FnOk P w K mg base CX0 2 T.a_l_moves T.d_l_moves P_l_moves sp_lmoves := by
  refine T.F_l_moves.ok sc_l_moves (fun vs H Q E h => ?_) (fun cdv A outer s H vs Q E hr h => ?_)
  · obtain ⟨hd, ca, u, a, b, c, many, rfl, _⟩ := h; rfl
  · obtain ⟨hd, ca, u, a, b, c, many, rfl, hA, ⟨ua, rfl, hu0⟩, ha, hb, hc, hm, k⟩ := h
    have hu := hu_of hr
    refine ⟨_, (pss_cons (ps_set (i := 3) sc_l_moves.nd rfl (Or.inl rfl) (pe_lst pa_nil))
  (pss_cons (ps_for PassesOwn.never rfl (pi_range1 rfl T.n_range (pa_cons (pv 2) pa_nil)) (pg_name (i := 4) sc_l_moves.nd rfl (Or.inl rfl)) (pss_cons (ps_set (i := 5) sc_l_moves.nd rfl (Or.inl rfl) pe_dnewT)
  (pss_cons (ps_if (pt_cmpR op_gt (pe_call (ok_l_draw T) (hr.mono (by decide)) rfl T.g_l_draw T.k_l_draw T.b_l_draw .nil pass0 (pa_cons (pv 0) (pa_cons pe_int pa_nil))) pe_int (nomark _)) (pss_one (ps_for PassesOwn.never rfl (pi_range1 rfl T.n_range (pa_cons (pe_ix ix_tup (pv 1) pe_int (fun _ _ => rfl)) pa_nil)) (pg_name (i := 6) sc_l_moves.nd rfl (Or.inl rfl)) (pss_one (ps_dput hu (pv 5) (pe_tup (pa_cons (pv 6) (pa_cons (pe_call (ok_l_draw T) (hr.mono (by decide)) rfl T.g_l_draw T.k_l_draw T.b_l_draw .nil pass0 (pa_cons (pv 0) (pa_cons (pe_ix ix_tup (pv 1) pe_int (fun _ _ => rfl)) pa_nil))) (pa_cons (pe_call (ok_l_draw T) (hr.mono (by decide)) rfl T.g_l_draw T.k_l_draw T.b_l_draw .nil pass0 (pa_cons (pv 0) (pa_cons (pe_ix ix_tup (pv 1) pe_int (fun _ _ => rfl)) pa_nil))) (pa_cons (pe_call (ok_l_draw T) (hr.mono (by decide)) rfl T.g_l_draw T.k_l_draw T.b_l_draw .nil pass0 (pa_cons (pv 0) (pa_cons (pv 2) pa_nil))) pa_nil))))) pe_bl rfl)))) pss_nil)
  (pss_cons (ps_for PassesOwn.never rfl (pi_range1 rfl T.n_range (pa_cons (pe_call (ok_l_draw T) (hr.mono (by decide)) rfl T.g_l_draw T.k_l_draw T.b_l_draw .nil pass0 (pa_cons (pv 0) (pa_cons pe_int pa_nil))) pa_nil)) (pg_name (i := 7) sc_l_moves.nd rfl (Or.inl rfl)) (pss_cons (ps_set (i := 6) sc_l_moves.nd rfl (Or.inl rfl) (pe_call (ok_l_draw T) (hr.mono (by decide)) rfl T.g_l_draw T.k_l_draw T.b_l_draw .nil pass0 (pa_cons (pv 0) (pa_cons (pe_ix ix_tup (pv 1) pe_int (fun _ _ => rfl)) pa_nil))))
  (pss_one (ps_dput hu (pv 5) (pe_tup (pa_cons (pv 6) (pa_cons (pe_call (ok_l_draw T) (hr.mono (by decide)) rfl T.g_l_draw T.k_l_draw T.b_l_draw .nil pass0 (pa_cons (pv 0) (pa_cons (pe_ix ix_tup (pv 1) pe_int (fun _ _ => rfl)) pa_nil))) (pa_cons (pe_call (ok_l_draw T) (hr.mono (by decide)) rfl T.g_l_draw T.k_l_draw T.b_l_draw .nil pass0 (pa_cons (pv 0) (pa_cons (pe_ix ix_tup (pv 1) pe_int (fun _ _ => rfl)) pa_nil))) (pa_cons (pe_call (ok_l_draw T) (hr.mono (by decide)) rfl T.g_l_draw T.k_l_draw T.b_l_draw .nil pass0 (pa_cons (pv 0) (pa_cons (pv 2) pa_nil))) pa_nil))))) pe_bl rfl))))
  (pss_one (ps_expr (pe_bm PySem.F.plainAttrs_list PySem.F.slot_list_append PySem.F.type_list_append mt_append (pv 3) (pa_cons (pe_callTy call_tuple_of (by rfl) T.n_tuple (by decide +kernel) (pa_cons (pe_callB (cr_sortedD hr) (by rfl) T.n_sorted (by decide +kernel) (pa_cons (pe_callTy (call_list_dT rfl) (by rfl) T.n_list (by decide +kernel) (pa_cons (pv 5) pa_nil)) pa_nil)) pa_nil)) pa_nil))))))))
  (pss_one (ps_ret (pe_callTy call_tuple_of (by rfl) T.n_tuple (by decide +kernel) (pa_cons (pv 3) pa_nil)))))), ?_⟩
    refine ⟨by decide, fun f hf => ?_⟩
    have n1 : f ≠ hd := fun z => hA.there.1 (by rw [← z]; exact hf)
    have n2 : f ≠ ca := fun z => hA.there.2 (by rw [← z]; exact hf)
    refine ⟨_, rfl, many, rfl, by omega, by omega, for_range (fun i σ H' => (∃ s4 s5 s6 s7, σ = [some (.ref hd), some (.ref ua), some (.int many), some (.ref f), s4, s5, s6, s7]) ∧ Ks (fun x => x = hd) H H' ∧ HandAt H' hd ca ∧ ∃ ws mv, H' f = some (.lst ws) ∧ Paired (TT TI H') ws mv ∧ mv.length = i ∧ RowsOk [a, b, c] many mv)
      ⟨⟨_, _, _, _, rfl⟩, (Ke.new hf).ks, hA.ke (Ke.new hf), [], [], upd_same, .nil, rfl, (fun r hr => by cases hr)⟩ ?_ ?_⟩
    · rintro i σ H1 hi ⟨⟨s4, s5, s6, s7, rfl⟩, k1, hA1, ws, mv, hf1, pw, lmv, rows⟩
      have hu1 := k1.tup _ _ hu0
      -- row
      intro rd hrd
      have n3 : rd ≠ hd := fun z => hA1.there.1 (by rw [← z]; exact hrd)
      have n4 : rd ≠ ca := fun z => hA1.there.2 (by rw [← z]; exact hrd)
      have n5 : f ≠ rd := ne_of_none hf1 hrd
      have kr : Ke H1 (upd H1 rd (.dT [])) := Ke.new hrd
      have rd0 : RD (upd H1 rd (.dT [])) rd [a, b, c] many 0 [] [] := ⟨upd_same, rfl, .nil, (fun _ z => by cases z), Nat.le_refl _⟩
      have hA2 := hA1.ke kr
      generalize hH2 : upd H1 rd (.dT []) = H2 at kr rd0 hA2 ⊢
      have k2 : Ks (fun x => x = hd ∨ x = rd) H1 H2 := kr.ks
      -- one more move of the slip in slot 6
      have one : ∀ (x1 x2 x3 x4 : Int), (0 ≤ x1 ∧ x1 < a) → (0 ≤ x2 ∧ x2 < b) → (0 ≤ x3 ∧ x3 < c) → (0 ≤ x4 ∧ x4 < many) → MoveOk [a, b, c] many [x1, x2, x3, x4] := fun x1 x2 x3 x4 h1 h2 h3 h4 => ⟨a, b, c, x1, x2, x3, x4, rfl, rfl, ⟨by omega, by omega⟩, ⟨by omega, by omega⟩, ⟨by omega, by omega⟩, by omega, by omega⟩
      refine ⟨_, rfl, hd, ca, 3, rfl, hA2, ⟨by decide, by decide⟩, fun r0 H3 _ _ k3 hA3 => ?_⟩
      have rd3 : RD H3 rd [a, b, c] many 0 [] [] := { rd0 with at_ := k3.keep _ _ n3 rd0.at_ }
      have k03 : Ks (fun x => x = hd ∨ x = rd) H1 H3 := k2.trans (k3.mono fun _ z => .inl z)
      refine ⟨_, _, rfl, rfl, _, rfl, ?_⟩
      refine (show (∀ (σ : L2.St) (H4 : Hp), ((∃ s6 s7, σ = [some (.ref hd), some (.ref ua), some (.int many), some (.ref f), some (.int (0 + (i : Nat))), some (.ref rd), s6, s7]) ∧ Ks (fun x => x = hd ∨ x = rd) H1 H4 ∧ HandAt H4 hd ca ∧ ∃ kvs ks, RD H4 rd [a, b, c] many 4 kvs ks) → (?G : L2.St → Hp → Prop) σ H4) → _ from fun tail => ite2 (fun hc0 => ?ca) (fun hc0 => ?cb)) ?tl
      case ca =>
        refine ⟨_, rfl, ua, _, 0, _, rfl, rfl, SqT.of (k03.tup _ _ hu1), rfl, a, rfl, by omega, by omega, for_range (fun j σ H' => (∃ s6 s7, σ = [some (.ref hd), some (.ref ua), some (.int many), some (.ref f), some (.int (0 + (i : Nat))), some (.ref rd), s6, s7]) ∧ Ks (fun x => x = hd ∨ x = rd) H1 H' ∧ HandAt H' hd ca ∧ ∃ kvs ks, RD H' rd [a, b, c] many j kvs ks) ⟨⟨_, _, rfl⟩, k03, hA3, _, _, rd3⟩ ?_ ?_⟩
        · rintro j σ H4 hj ⟨⟨s6, s7, rfl⟩, k4, hA4, kvs, ks, r4⟩
          have hu4 := k4.tup _ _ hu1
          refine ⟨_, rfl, _, rfl, _, rfl, _, rfl, ua, _, 1, _, rfl, rfl, SqT.of hu4, rfl, hd, ca, b, rfl, hA4, ⟨by omega, by omega⟩, fun x2 H5 q1 q2 k5 hA5 => ?_⟩
          refine ⟨_, rfl, _, rfl, ua, _, 2, _, rfl, rfl, SqT.of (k5.tup _ _ hu4), rfl, hd, ca, c, rfl, hA5, ⟨by omega, by omega⟩, fun x3 H6 q3 q4 k6 hA6 => ?_⟩
          refine ⟨_, rfl, _, rfl, hd, ca, many, rfl, hA6, ⟨by omega, by omega⟩, fun x4 H7 q5 q6 k7 hA7 => ⟨(by show 4 ≤ sizeLine; decide), fun t ht => ?_⟩⟩
          have k47 := (k5.trans k6).trans k7
          have r7 := k47.keep _ _ n3 r4.at_
          have lk : kvs.length ≤ j := by have h1 := congrArg List.length r4.ke; have h2 := r4.len; simp at h1; omega
          refine ⟨rd, _, rfl, DPut.t (k := keyI [0 + (j : Int), x2, x3, x4]) ((Ke.new ht).at r7) (by rw [upd_same]; rfl) (by rw [sizeLine_eq]; omega), ?_⟩
          exact ⟨⟨_, _, rfl⟩, ((k4.trans (k47.mono fun _ z => .inl z)).trans (Ke.new ht).ks).mut (.inr rfl) (fun ys z => by rw [(Ke.new ht).at r7] at z; cases z), (hA7.ke (Ke.new ht)).mut n3 n4, _, _, r4.put (one _ _ _ _ ⟨by omega, by omega⟩ ⟨q1, q2⟩ ⟨q3, q4⟩ ⟨q5, q6⟩)⟩
        · intro σ H4 z
          refine tail σ H4 ?_
          obtain ⟨z1, k4, hA4, kvs, ks, r4⟩ := z
          exact ⟨z1, k4, hA4, kvs, ks, r4.at_, r4.ke, r4.nd, r4.ok, by have := r4.len; omega⟩
      case cb =>
        exact tail _ _ ⟨⟨_, _, rfl⟩, k03, hA3, _, _, rd3.at_, rd3.ke, rd3.nd, rd3.ok, by decide⟩
      case tl =>
        rintro σ H4 ⟨⟨s6, s7, rfl⟩, k4, hA4, kvs, ks, r4⟩
        refine ⟨_, rfl, hd, ca, 3, rfl, hA4, ⟨by decide, by decide⟩, fun r1 H5 p1 p2 k5 hA5 => ⟨r1, rfl, by omega, by omega, ?_⟩⟩
        refine for_range (fun j σ H' => (∃ s6 s7, σ = [some (.ref hd), some (.ref ua), some (.int many), some (.ref f), some (.int (0 + (i : Nat))), some (.ref rd), s6, s7]) ∧ Ks (fun x => x = hd ∨ x = rd) H1 H' ∧ HandAt H' hd ca ∧ ∃ kvs ks, RD H' rd [a, b, c] many (4 + j) kvs ks)
          ⟨⟨_, _, rfl⟩, k4.trans (k5.mono fun _ z => .inl z), hA5, kvs, ks, { r4 with at_ := k5.keep _ _ n3 r4.at_ }⟩ ?_ ?_
        · rintro j σ H4 hj ⟨⟨s6, s7, rfl⟩, k4, hA4, kvs, ks, r4⟩
          have hu4 := k4.tup _ _ hu1
          refine ⟨_, rfl, _, rfl, ua, _, 0, _, rfl, rfl, SqT.of hu4, rfl, hd, ca, a, rfl, hA4, ⟨by omega, by omega⟩, fun x1 H5 q1 q2 k5 hA5 => ?_⟩
          have hu5 := k5.tup _ _ hu4
          refine ⟨_, rfl, _, rfl, _, rfl, _, rfl, ua, _, 1, _, rfl, rfl, SqT.of hu5, rfl, hd, ca, b, rfl, hA5, ⟨by omega, by omega⟩, fun x2 H6 q3 q4 k6 hA6 => ?_⟩
          refine ⟨_, rfl, _, rfl, ua, _, 2, _, rfl, rfl, SqT.of (k6.tup _ _ hu5), rfl, hd, ca, c, rfl, hA6, ⟨by omega, by omega⟩, fun x3 H7 q5 q6 k7 hA7 => ?_⟩
          refine ⟨_, rfl, _, rfl, hd, ca, many, rfl, hA7, ⟨by omega, by omega⟩, fun x4 H8 q7 q8 k8 hA8 => ⟨(by show 4 ≤ sizeLine; decide), fun t ht => ?_⟩⟩
          have k48 := ((k5.trans k6).trans k7).trans k8
          have r8 := k48.keep _ _ n3 r4.at_
          have lk : kvs.length ≤ 4 + j := by have h1 := congrArg List.length r4.ke; have h2 := r4.len; simp at h1; omega
          refine ⟨rd, _, rfl, DPut.t (k := keyI [x1, x2, x3, x4]) ((Ke.new ht).at r8) (by rw [upd_same]; rfl) (by rw [sizeLine_eq]; omega), ?_⟩
          exact ⟨⟨_, _, rfl⟩, ((k4.trans (k48.mono fun _ z => .inl z)).trans (Ke.new ht).ks).mut (.inr rfl) (fun ys z => by rw [(Ke.new ht).at r8] at z; cases z), (hA8.ke (Ke.new ht)).mut n3 n4, _, _, r4.put (one _ _ _ _ ⟨q1, q2⟩ ⟨q3, q4⟩ ⟨q5, q6⟩ ⟨q7, q8⟩)⟩
        · rintro σ H4 ⟨⟨s6, s7, rfl⟩, k4, hA4, kvs, ks, r4⟩
          have hf4 : H4 f = some (.lst ws) := k4.keep _ _ (fun z => z.elim n1 n5) hf1
          have lks : ks.length ≤ 6 := by have := r4.len; omega
          refine ⟨_, rfl, .inl ⟨rfl, _, SqL.of hf4⟩, _, rfl, rd, kvs, rfl, .inl r4.at_, fun p bs hp ik => ?_⟩
          have pk := isKeys_TI ik r4.ke
          have kp : Ke H4 (upd H4 p (.lst (bs.map V.ref))) := Ke.new hp
          refine ⟨p, _, List Int, TI (upd H4 p (.lst (bs.map V.ref))), tI, ks, rfl, SqL.of upd_same, pimp (fun v x r => TI.stb _ _ v x kp.tx r) pk, fun v x r => TI.enc K _ v x r, ok_T (fun m hm => ?_), fun p2 out hp2 po => ⟨p2, out, rfl, .inl ⟨SqL.of upd_same, fun t ht => ?_⟩⟩⟩
          · obtain ⟨_, _, _, _, _, _, _, _, rfl, _⟩ := r4.ok m hm
            simp
          have k5 := (kp.trans (Ke.new (o := .lst out) hp2)).trans (Ke.new (o := .tup out) ht)
          refine ⟨f, ws, _, rfl, rfl, k5.at hf4, ?_, ?_⟩
          · rw [plen pw, lmv, sizeLine_eq]; omega
          have tx := snoc_tx (ws := ws ++ [.ref t]) k5.tx hf4
          have t14 : Tx H1 H4 := k4.tx
          have kF : Ks (fun x => x = hd) H (upd (upd (upd (upd H4 p (.lst (bs.map V.ref))) p2 (.lst out)) t (.tup out)) f (.lst (ws ++ [.ref t]))) := by
            refine (Ks.comp k1 (k4.trans k5.ks) (U := fun x => x = hd) (fun _ z => z) (fun x z => z.elim .inl fun z => .inr (by rw [z]; exact k1.free hrd))).mutNew hf
          refine ⟨⟨_, _, _, _, rfl⟩, kF, (hA4.ke k5).mut n1 n2, _, mv ++ [sortT ks], upd_same, papp (pimp (fun v x r => TT.stb TI.stb _ _ v x (t14.trans tx) r) pw) (.cons ⟨t, out, rfl, ?_, ?_⟩ .nil), by rw [List.length_append, lmv]; rfl, fun r hr => ?_⟩
          · rw [upd_ne (ne_of (k5.at hf4) upd_same (fun z => nomatch z)).symm, upd_same]
          · exact pimp (fun v x r => TI.stb _ _ v x (((Ke.new (o := .lst out) hp2).tx.trans (Ke.new (o := .tup out) ht).tx).trans (snoc_tx .refl (k5.at hf4))) r) po
          · rcases List.mem_append.mp hr with z | z
            · exact rows r z
            · rw [List.mem_singleton.mp z]
              exact ⟨⟨fun m hm => r4.ok m (mem_sortT.mp hm), strict_sortT r4.nd, by rw [len_sortT]; omega⟩, by rw [len_sortT]; exact lks⟩
    · rintro σ H1 ⟨⟨s4, s5, s6, s7, rfl⟩, k1, hA1, ws, mv, hf1, pw, lmv, rows⟩
      refine ⟨_, rfl, f, ws, rfl, .inl ⟨SqL.of hf1, fun t ht => ?_⟩⟩
      exact k _ mv _ (k1.trans (Ke.new ht).ks) (hA1.ke (Ke.new ht)) ⟨t, ws, rfl, upd_same, pimp (fun v x r => TT.stb TI.stb _ _ v x (Ke.new ht).tx r) pw⟩ (by omega) rows
end
end Fd
set_option Elab.async false
set_option linter.all false
set_option maxRecDepth 100000
set_option maxHeartbeats 4000000
namespace Fd
open PySem PySem.Spec PyProof.Rows L2
def sp_lclos : Sp := fun xs H Q _ => ∃ hd ca u a b c many, xs = [.ref hd, u, .int many] ∧ HandAt H hd ca ∧ TI H u [a, b, c] ∧ (1 ≤ a ∧ a ≤ 4) ∧ (1 ≤ b ∧ b ≤ 4) ∧ (1 ≤ c ∧ c ≤ 4) ∧ (1 ≤ many ∧ many ≤ 20) ∧
  ∀ v cl H', Ks (fun x => x = hd) H H' → HandAt H' hd ca → CL H' v cl → ClosOk [a, b, c] many cl → (∀ r ∈ cl, r.length ≤ 4) → Q v H'
def sp_loffice (C : Addr) : Sp := fun xs H Q _ => ∃ hd ca u a b c most, xs = [.ref hd, u, .int most] ∧ HandAt H hd ca ∧ TI H u [a, b, c] ∧ (1 ≤ a ∧ a ≤ 4) ∧ (1 ≤ b ∧ b ≤ 4) ∧ (1 ≤ c ∧ c ≤ 4) ∧ (1 ≤ most ∧ most ≤ 20) ∧
  ∀ p (o : Ofc) H', o.sz = [a, b, c] → Good o.sz o.mv o.cl → (o.mv.length : Int) ≤ most → RowsOk o.sz o.mv.length o.mv → (∀ r ∈ o.cl, r.length ≤ 4) → Ks (fun x => x = hd) H H' → HandAt H' hd ca → OfAt C (Hd (fun x => x = hd) H') p o → Q (.ref p) H'
section
variable {P : Program} {w : World} {K : PySem.W.Frag} {mg : Str → Option Value} {base : Heap} (T : Txt K mg)
include T
theorem ok_l_closings : FnOk P w K mg base CX0 2 T.a_l_closings T.d_l_closings P_l_closings sp_lclos := by
  refine T.F_l_closings.ok sc_l_closings (fun vs H Q E h => ?_) (fun cdv A outer s H vs Q E hr h => ?_)
  · obtain ⟨hd, ca, u, a, b, c, many, rfl, _⟩ := h; rfl
  · obtain ⟨hd, ca, u, a, b, c, many, rfl, hA, ⟨ua, rfl, hu0⟩, ha, hb, hc, hm, k⟩ := h
    refine ⟨_, (pss_cons (ps_set (i := 3) sc_l_closings.nd rfl (Or.inl rfl) (pe_lst pa_nil))
  (pss_cons (ps_for PassesOwn.never rfl (pi_range1 rfl T.n_range (pa_cons (pv 2) pa_nil)) (pg_name (i := 4) sc_l_closings.nd rfl (Or.inl rfl)) (pss_one (ps_expr (pe_bm PySem.F.plainAttrs_list PySem.F.slot_list_append PySem.F.type_list_append mt_append (pv 3) (pa_cons (pe_callTy call_tuple_of (by rfl) T.n_tuple (by decide +kernel) (pa_cons (pe_lc (own := [("_law_mark", 5)]) rfl sc_l_closings.nd (pi_range1 rfl T.n_range (pa_cons (pe_ix ix_tup (pv 1) pe_int (fun _ _ => rfl)) pa_nil)) (blkOk_by (own := [("_law_mark", 5)]) (N := N_l_closings) (sc := defScope s_l_closings) (by decide +kernel)) (fun _ _ _ _ _ => (pg_name (i := 5) sc_l_closings.nd rfl (Or.inl rfl))) (fun _ _ _ _ _ => pts_one (pt_cmpR op_gt (pe_call (ok_l_draw T) (hr.mono (by decide)) rfl T.g_l_draw T.k_l_draw T.b_l_draw .nil pass0 (pa_cons (pv 0) (pa_cons pe_int pa_nil))) pe_int (nomark _))) (fun _ _ _ _ _ => (pv 5))) pa_nil)) pa_nil)))))
  (pss_one (ps_ret (pe_callTy call_tuple_of (by rfl) T.n_tuple (by decide +kernel) (pa_cons (pv 3) pa_nil)))))), ?_⟩
    refine ⟨by decide, fun f hf => ?_⟩
    have n1 : f ≠ hd := fun z => hA.there.1 (by rw [← z]; exact hf)
    have n2 : f ≠ ca := fun z => hA.there.2 (by rw [← z]; exact hf)
    refine ⟨_, rfl, many, rfl, by omega, by omega, for_range (fun i σ H' => (∃ s4 s5, σ = [some (.ref hd), some (.ref ua), some (.int many), some (.ref f), s4, s5]) ∧ Ks (fun x => x = hd) H H' ∧ HandAt H' hd ca ∧ ∃ ws cl, H' f = some (.lst ws) ∧ Paired (TI H') ws cl ∧ cl.length = i ∧ ∀ r ∈ cl, (∀ k ∈ r, 0 ≤ k ∧ k < c) ∧ r.Pairwise (· < ·) ∧ r.length ≤ 4)
      ⟨⟨_, _, rfl⟩, (Ke.new hf).ks, hA.ke (Ke.new hf), [], [], upd_same, .nil, rfl, (fun r hr => by cases hr)⟩ ?_ ?_⟩
    · rintro i σ H1 hi ⟨⟨s4, s5, rfl⟩, k1, hA1, ws, cl, hf1, pw, lcl, rows⟩
      have hu1 := k1.tup _ _ hu0
      refine ⟨_, rfl, .inl ⟨rfl, _, SqL.of hf1⟩, _, rfl, ua, _, 2, _, rfl, rfl, SqT.of hu1, rfl, c, rfl, by omega, by omega, fun D hD => ?_⟩
      have m1 : D ≠ hd := fun z => hA1.there.1 (by rw [← z]; exact hD)
      have m2 : D ≠ ca := fun z => hA1.there.2 (by rw [← z]; exact hD)
      have m3 : D ≠ f := (ne_of_none hf1 hD).symm
      refine lw_range (fun j H' => Ks (fun x => x = hd) H1 H' ∧ HandAt H' hd ca ∧ ∃ ms : List Int, H' D = some (.lst (ms.map V.int)) ∧ ms.Pairwise (· < ·) ∧ (∀ k ∈ ms, 0 ≤ k ∧ k < j) ∧ ms.length ≤ j) ⟨(Ke.new hD).ks, hA1.ke (Ke.new hD), [], upd_same, .nil, (fun _ z => nomatch z), Nat.le_refl _⟩ ?_ ?_
      · rintro j H2 hj ⟨k2, hA2, ms, hD2, asc, rg, lm⟩
        refine ⟨rfl, _, rfl, hd, ca, 3, rfl, hA2, ⟨by decide, by decide⟩, fun r H3 _ _ k3 hA3 => ⟨_, _, rfl, rfl, _, rfl, ite2 (fun _ => ?_) (fun _ => ?_)⟩⟩
        · have hD3 := k3.keep _ _ m1 hD2
          refine ⟨_, rfl, _, hD3, by rw [List.length_map, sizeLine_eq]; omega, (k2.trans k3).mutNew hD, hA3.mut m1 m2, ms ++ [(j : Int)], by rw [upd_same]; simp, ?_, fun x hx => ?_, by rw [List.length_append]; simp; omega⟩
          · rw [List.pairwise_append]
            exact ⟨asc, by simp, fun x hx y hy => by rw [List.mem_singleton.mp hy]; exact (rg x hx).2⟩
          · rcases List.mem_append.mp hx with z | z
            · have := rg x z; omega
            · rw [List.mem_singleton.mp z]; omega
        · exact ⟨k2.trans k3, hA3, ms, k3.keep _ _ m1 hD2, asc, fun x hx => by have := rg x hx; omega, by omega⟩
      · rintro H2 ⟨k2, hA2, ms, hD2, asc, rg, lm⟩
        have hf2 := k2.keep _ _ n1 hf1
        refine ⟨D, _, rfl, .inl ⟨SqL.of hD2, fun t ht => ⟨f, ws, _, rfl, rfl, (Ke.new ht).at hf2, by rw [plen pw, lcl, sizeLine_eq]; omega, ?_⟩⟩⟩
        have tx := snoc_tx (ws := ws ++ [.ref t]) (Ke.new (o := .tup (ms.map V.int)) ht).tx hf2
        refine ⟨⟨_, _, rfl⟩, ((k1.trans k2).trans (Ke.new ht).ks).mutNew hf, (hA2.ke (Ke.new ht)).mut n1 n2, _, cl ++ [ms], upd_same, papp (pimp (fun v x r => TI.stb _ _ v x (k2.tx.trans tx) r) pw) (.cons ⟨t, rfl, ?_⟩ .nil), by rw [List.length_append, lcl]; rfl, fun r hr => ?_⟩
        · rw [upd_ne (ne_of ((Ke.new (o := .tup (ms.map V.int)) ht).at hf2) upd_same (fun z => nomatch z)).symm, upd_same]
        · rcases List.mem_append.mp hr with z | z
          · exact rows r z
          · rw [List.mem_singleton.mp z]
            exact ⟨fun k hk => by have := rg k hk; omega, asc, by omega⟩
    · rintro σ H1 ⟨⟨s4, s5, rfl⟩, k1, hA1, ws, cl, hf1, pw, lcl, rows⟩
      refine ⟨_, rfl, f, ws, rfl, .inl ⟨SqL.of hf1, fun t ht => ?_⟩⟩
      refine k _ cl _ (k1.trans (Ke.new ht).ks) (hA1.ke (Ke.new ht)) ⟨t, ws, rfl, upd_same, pimp (fun v x r => TI.stb _ _ v x (Ke.new ht).tx r) pw⟩ ⟨by omega, fun r hr => ⟨fun k hk => ⟨a, b, c, rfl, ?_⟩, (rows r hr).2.1, by have := (rows r hr).2.2; omega⟩⟩ fun r hr => (rows r hr).2.2
      have := (rows r hr).1 k hk
      omega
theorem ok_l_office : FnOk P w K mg base CX0 7 T.a_l_office T.d_l_office P_l_office (sp_loffice T.a_Office) := by
  refine T.F_l_office.ok sc_l_office (fun vs H Q E h => ?_) (fun cdv A outer s H vs Q E hr h => ?_)
  · obtain ⟨hd, ca, u, a, b, c, most, rfl, _⟩ := h; rfl
  · obtain ⟨hd, ca, u, a, b, c, most, rfl, hA, hu0, ha, hb, hc, hm, k⟩ := h
    refine ⟨_, (pss_cons (ps_set (i := 3) sc_l_office.nd rfl (Or.inl rfl) (pe_op op_add pe_int (pe_call (ok_l_draw T) (hr.mono (by decide)) rfl T.g_l_draw T.k_l_draw T.b_l_draw .nil pass0 (pa_cons (pv 0) (pa_cons (pv 2) pa_nil)))))
  (pss_one (ps_ret (pe_make T.m_Office (ok_Office_init T) (hr.mono (by decide)) rfl T.g_Office T.b_Office_init .nil pass0 (pa_cons (pv 1) (pa_cons (pe_call (ok_l_moves T) (hr.mono (by decide)) rfl T.g_l_moves T.k_l_moves T.b_l_moves .nil pass0 (pa_cons (pv 0) (pa_cons (pv 1) (pa_cons (pv 3) pa_nil)))) (pa_cons (pe_call (ok_l_closings T) (hr.mono (by decide)) rfl T.g_l_closings T.k_l_closings T.b_l_closings .nil pass0 (pa_cons (pv 0) (pa_cons (pv 1) (pa_cons (pv 3) pa_nil)))) pa_nil))))))), ?_⟩
    refine ⟨_, rfl, _, rfl, hd, ca, most, rfl, hA, ⟨by omega, by omega⟩, fun r H1 r1 r2 k1 hA1 => ⟨_, _, rfl, rfl, ?_⟩⟩
    refine ⟨_, rfl, _, rfl, _, rfl, _, rfl, hd, ca, u, a, b, c, 1 + r, rfl, hA1, TI.stb _ _ _ _ k1.tx hu0, ha, hb, hc, ⟨by omega, by omega⟩, fun vm mv H2 k2 hA2 hm2 lm rows => ?_⟩
    refine ⟨_, rfl, _, rfl, _, rfl, hd, ca, u, a, b, c, 1 + r, rfl, hA2, TI.stb _ _ _ _ (k1.tx.trans k2.tx) hu0, ha, hb, hc, ⟨by omega, by omega⟩, fun vc cl H3 k3 hA3 hc3 cok c4 => fun x dx hx hdx ndx => ?_⟩
    have kA : Ke H3 (upd (upd H3 dx (.own x)) x (.ins T.a_Office dx [])) := (Ke.new hdx).trans (Ke.new (by rw [upd_ne ndx.symm]; exact hx))
    have hA4 := hA3.ke kA
    have x1 : x ≠ hd := fun z => hA3.there.1 (by rw [← z]; exact hx)
    have x2 : x ≠ ca := fun z => hA3.there.2 (by rw [← z]; exact hx)
    have txA : Tx H3 (Hd (fun y => y = hd) (upd (upd H3 dx (.own x)) x (.ins T.a_Office dx []))) := kA.tx.trans hA4.tx
    refine ⟨fun y => y = hd, x, dx, u, vm, vc, [a, b, c], mv, cl, rfl, upd_same, x1, fun y z => by rw [z]; exact hA4.there.1, TI.stb _ _ _ _ ((k1.tx.trans (k2.tx.trans k3.tx)).trans txA) hu0, TT.stb (TT.stb TI.stb) _ _ _ _ (k3.tx.trans txA) hm2, TT.stb TI.stb _ _ _ _ txA hc3, ?_, fun H4 k4 o => ⟨rfl, ?_⟩⟩
    · refine ⟨⟨rfl, fun z hz => ?_⟩, ⟨by omega, by omega, fun r' hr' => ?_⟩, ?_⟩
      · simp only [List.mem_cons, List.mem_nil_iff, or_false] at hz
        rcases hz with rfl | rfl | rfl <;> omega
      · rw [lm]; exact (rows r' hr').1
      · rw [lm]; exact cok
    · have kK : Ks (fun y => y = hd) H H4 := by
        refine Ks.comp ((k1.trans (k2.trans k3)).trans kA.ks) k4 (fun _ z => z) fun y z => .inr ?_
        rw [z]; exact (k1.trans (k2.trans k3)).free hx
      refine k x ⟨[a, b, c], mv, cl⟩ H4 rfl ?_ (by show (mv.length : Int) ≤ most; omega) ?_ c4 kK (hA4.ks k4 (fun z => x1 z.symm) fun z => x2 z.symm) o
      · refine ⟨⟨rfl, fun z hz => ?_⟩, ⟨by show 1 ≤ mv.length; omega, by show mv.length ≤ 20; omega, fun r' hr' => ?_⟩, ?_⟩
        · simp only [List.mem_cons, List.mem_nil_iff, or_false] at hz
          rcases hz with rfl | rfl | rfl <;> omega
        · show RowOk [a, b, c] (mv.length : Int) r'
          rw [lm]; exact (rows r' hr').1
        · show ClosOk [a, b, c] (mv.length : Int) cl
          rw [lm]; exact cok
      · show RowsOk [a, b, c] (mv.length : Int) mv
        rw [lm]; exact rows
end
end Fd
set_option Elab.async false
set_option linter.all false
set_option maxRecDepth 100000
set_option maxHeartbeats 4000000
namespace Fd
open PySem PySem.Spec PyProof.Rows L2
theorem sorted_sortI (bs : List Int) : (sortI bs).Pairwise (· ≤ ·) := by
  unfold sortI
  rw [le_int]
  have h := List.pairwise_mergeSort (le := fun (p q : Int) => decide (p ≤ q)) (fun a b c h1 h2 => by
    have h1' := of_decide_eq_true h1
    have h2' := of_decide_eq_true h2
    exact decide_eq_true (Int.le_trans h1' h2')) (fun a b => by
    rcases Int.le_total a b with h | h
    · simp [h]
    · simp [h]) bs
  exact h.imp fun q => of_decide_eq_true q
theorem perm_sortI (bs : List Int) : (sortI bs).Perm bs := List.mergeSort_perm bs _
theorem closes_any {o : Ofc} {ss : List Int} {last : Int} : (ss.map fun s => decide (last ∈ at0 o.cl s)).any id = closesS o ss last := by
  unfold closesS lastsM
  rw [List.any_map, Bool.eq_iff_iff, List.any_eq_true, decide_eq_true_iff, mem_usort, List.mem_flatMap]
  simp
theorem steps_flat (a b c : Int) : ((ran a).flatMap fun s => (ran b).flatMap fun n => (ran c).map fun k => [s, n, k]) = stepsM a b c := by
  unfold stepsM
  rw [List.flatMap_assoc]
  congr 1
  funext s
  rw [List.flatMap_map]
  rfl
def sp_lcloses (K : PySem.W.Frag) : Sp := fun xs H Q _ => ∃ C p o u ss last, xs = [.ref p, u, .int last] ∧ OC K C ∧ OfAt C H p o ∧ Wf o ∧ TI H u ss ∧ (∀ s ∈ ss, 0 ≤ s ∧ s < o.mv.length) ∧ ss.length < 1000000 ∧ ∀ H', Ke H H' → Q (.bl (closesS o ss last)) H'
def sp_lall : Sp := fun xs H Q _ => ∃ u a b c, xs = [u] ∧ TI H u [a, b, c] ∧ (1 ≤ a ∧ a ≤ 63) ∧ (1 ≤ b ∧ b ≤ 63) ∧ (1 ≤ c ∧ c ≤ 63) ∧ ∀ l ws H', H l = none → Ke H H' → H' l = some (.lst ws) → Paired (TI H') ws (stepsM a b c) → Q (.ref l) H'
section
variable {P : Program} {w : World} {K : PySem.W.Frag} {mg : Str → Option Value} {base : Heap} (T : Txt K mg)
include T
theorem ok_l_behind : FnOk P w K mg base CX0 1 T.a_l_behind T.d_l_behind P_l_behind (sp_goals_of K) := by
  refine T.F_l_behind.ok sc_l_behind (fun vs H Q E h => ?_) (fun cdv A outer s H vs Q E hr h => ?_)
  · obtain ⟨C, p, o, u, v, ss, st, rfl, _⟩ := h; rfl
  · obtain ⟨C, p, o, u, v, ss, st, rfl, oc, of, wf, ⟨a, rfl, ha⟩, ⟨b, rfl, hb⟩, hss, k⟩ := h
    have hu := hu_of hr
    obtain ⟨dx, vs, vm, vc, l, ds, hp, _, ⟨mm, ms, rfl, hmm, pm⟩, _, _, _⟩ := of.ex
    refine ⟨_, (pss_cons (ps_set (i := 3) sc_l_behind.nd rfl (Or.inl rfl) pe_dnewK)
  (pss_cons (ps_for PassesOwn.never rfl (pi_tup (pv 1)) (pg_name (i := 4) sc_l_behind.nd rfl (Or.inl rfl)) (pss_one (ps_for PassesOwn.never rfl (pi_tup (pe_ix ix_tup (pe_fld (pv 0) rfl) (pv 4) (fun _ _ => rfl))) (pg_name (i := 5) sc_l_behind.nd rfl (Or.inl rfl)) (pss_one (ps_if (pt_cmpR (op_eqD hr.units) (pe_slice sl_tupA (pv 5) po_none (po_some pe_int)) (pv 2) (nomark _)) (pss_one (ps_dput hu (pv 3) (pe_ix ix_tup (pv 5) pe_int (fun _ _ => rfl)) pe_bl rfl)) pss_nil)))))
  (pss_one (ps_ret (pe_callTy call_tuple_of (by rfl) T.n_tuple (by decide +kernel) (pa_cons (pe_callB (cr_sortedD hr) (by rfl) T.n_sorted (by decide +kernel) (pa_cons (pe_callTy (call_list_dK rfl) (by rfl) T.n_list (by decide +kernel) (pa_cons (pv 3) pa_nil)) pa_nil)) pa_nil)))))), ?_⟩
    intro f hf
    have k0 : Ke H (upd H f (.dK [])) := Ke.new hf
    have small : ∀ d : List Int, (∀ s ∈ d, s ∈ ss) → ∀ z ∈ d.flatMap (fun s => goalsIn (at0 o.mv s) st), 0 ≤ z ∧ z < (o.mv.length : Nat) := fun d hd z hz => by
      obtain ⟨s', hs', q⟩ := List.mem_flatMap.mp hz
      obtain ⟨y0, y1⟩ := hss s' (hd s' hs')
      have q2 : o.mv[s'.toNat]? = some (o.mv[s'.toNat]'(by omega)) := List.getElem?_eq_getElem (by omega)
      rw [at0_of q2] at q
      exact (goalsIn_ok wf (List.mem_of_getElem? q2) (st := st)).2 z q
    refine ⟨_, rfl, a, rfl, ⟨_, SqT.of (k0.at ha)⟩, fo_T (R := II H) (fun d σ H' => (∃ o1 o2, σ = [some (.ref p), some (.ref a), some (.ref b), some (.ref f), o1, o2]) ∧ Ke H H' ∧ DS H' f (d.flatMap fun s => goalsIn (at0 o.mv s) st)) (pmap_int ss)
      ⟨⟨_, _, rfl⟩, k0, [], [], upd_same, rfl, .nil, fun x => by simp⟩ (fun d σ H' p => p.2.1.at ha) ?_ ?_⟩
    · rintro d x r v σ H1 e rfl ⟨⟨o1, o2, rfl⟩, k1, kvs, ks, hf1, hk1, hn1, hm1⟩
      obtain ⟨x0, x1⟩ := hss x (by rw [e]; simp)
      obtain ⟨row, hrow⟩ : ∃ row, o.mv[x.toNat]? = some row := ⟨_, List.getElem?_eq_getElem (by omega)⟩
      have hrm : row ∈ o.mv := List.mem_of_getElem? hrow
      obtain ⟨rv, hrv, rb, rws, rfl, hrb, prw⟩ := pget pm hrow
      have er : at0 o.mv x = row := at0_of hrow
      refine ⟨_, rfl, p, C, dx, _, _, rfl, k1.at hp, oc.c, oc.n2, offF_m _ _ _ _, _, rfl, mm, ms, x, _, rfl, rfl, SqT.of (k1.at hmm), atI_nat hrv (by omega), rb, rfl, ⟨_, SqT.of (k1.at hrb)⟩, ?_⟩
      refine fo_T (R := TI H) (fun d' σ H' => (∃ o2, σ = [some (.ref p), some (.ref a), some (.ref b), some (.ref f), some (.int x), o2]) ∧ Ke H H' ∧ DS H' f ((d.flatMap fun s => goalsIn (at0 o.mv s) st) ++ goalsIn d' st)) prw
          ⟨⟨_, rfl⟩, k1, kvs, ks, hf1, hk1, hn1, fun x => by rw [hm1]; simp [goalsIn]⟩ (fun d σ H' p => p.2.1.at hrb) ?_ ?_
      · rintro d' m r' v' σ' H3 e' ⟨ma, rfl, hma⟩ ⟨⟨o2, rfl⟩, k3, kvs3, ks3, hf3, hk3, hn3, hm3⟩
        obtain ⟨a', b', c', s1, n1, q1, g1, _, rfl, _, _, _, g0, gl⟩ := (wf.mv row hrm).2 m (by rw [e']; simp)
        have hma3 := k3.at hma
        have l3 : ks3.length ≤ 63 := Nat.le_trans (short_of hn3 (n := o.mv.length) fun z hz => by
          rcases List.mem_append.mp ((hm3 z).mp hz) with q | q
          · exact small d (fun s' hs' => by rw [e]; simp [hs']) z q
          · refine (goalsIn_ok wf hrm (st := st)).2 z ?_
            rw [e']
            unfold goalsIn at q ⊢
            rw [List.filterMap_append]; exact List.mem_append_left _ q) wf.n2
        have lk : kvs3.length = ks3.length := by have := congrArg List.length hk3; simpa using this
        refine ⟨_, rfl, 3, rfl, ma, _, rfl, SqT.of hma3, fun h => absurd h.2 (by show ¬ HT.sIx 4 4 (some 3) = 4; decide), fun _ t ht => ?_⟩
        have k4 : Ke H3 (upd H3 t (.tup [.int s1, .int n1, .int q1])) := Ke.new ht
        refine ⟨_, rfl, tI [s1, n1, q1], tI st, TI.enc K _ _ _ ⟨t, rfl, upd_same⟩, TI.enc K _ _ _ ⟨b, rfl, k4.at (k3.at hb)⟩, shaped_tI _, shaped_tI _, _, rfl, ?_⟩
        rw [eqv_tI, goalsIn_snoc]
        by_cases c : [s1, n1, q1] = st
        · rw [if_pos c]
          refine ifT c ⟨_, rfl, _, rfl, ma, _, 3, _, rfl, rfl, SqT.of (k4.at hma3), rfl, f, _, rfl, DPut.k (k := .inl g1) (k4.at hf3) (by rw [sizeLine_eq]; omega), ⟨_, rfl⟩, (k3.trans k4).mutNew hf, ?_⟩
          rw [← List.append_assoc]; exact DS.put hk3 hn3 hm3
        · rw [if_neg c]
          exact ifF c ⟨⟨_, rfl⟩, k3.trans k4, kvs3, ks3, k4.at hf3, hk3, hn3, hm3⟩
      · rintro σ' H3 ⟨⟨o2, rfl⟩, k3, q3⟩
        refine ⟨⟨_, _, rfl⟩, k3, ?_⟩
        rw [List.flatMap_append, List.flatMap_singleton, er]
        exact q3
    · rintro σ H1 ⟨⟨o1, o2, rfl⟩, k1, kvs, ks, hf1, hk1, hn1, hm1⟩
      have ek : (kvs.map fun kv => kV kv.1) = ks.map V.int := by
        have : (kvs.map fun kv => kV kv.1) = (kvs.map (·.1)).map kV := by rw [List.map_map]; rfl
        rw [this, hk1]; exact keyI_kV ks
      refine ⟨_, rfl, f, kvs, rfl, hf1, fun q hq => ?_⟩
      rw [ek]
      refine ⟨q, _, Int, II H, PyData.int, ks, rfl, SqL.of upd_same, pmap_int ks, fun v b h => II.enc K _ v b h, ok_I, fun p2 out hp2 po => ⟨p2, _, rfl, .inl ⟨SqL.of upd_same, fun t ht => ?_⟩⟩⟩
      refine k _ _ (((k1.trans (Ke.new hq)).trans (Ke.new hp2)).trans (Ke.new ht)) ⟨t, rfl, ?_⟩
      rw [upd_same, paired_int (H := H) po]
      have eu : sortI ks = goalsM o ss st := usort_of (perm_sortI ks) (sorted_sortI ks) hn1 hm1
      rw [← eu]; rfl
theorem ok_l_closes : FnOk P w K mg base CX0 1 T.a_l_closes T.d_l_closes P_l_closes (sp_lcloses K) := by
  refine T.F_l_closes.ok sc_l_closes (fun vs H Q E h => ?_) (fun cdv A outer s H vs Q E hr h => ?_)
  · obtain ⟨C, p, o, u, ss, last, rfl, _⟩ := h; rfl
  · obtain ⟨C, p, o, u, ss, last, rfl, oc, of, wf, ⟨a, rfl, ha⟩, hss, hlen, k⟩ := h
    obtain ⟨dx, vs, vm, vc, l, ds, hp, _, _, ⟨c, cs, rfl, hc, pc⟩, _, _⟩ := of.ex
    refine ⟨_, (pss_one (ps_ret (pe_callB (cr_any rfl) (by rfl) T.n_any (by decide +kernel) (pa_cons (pe_lc (own := [("_law_standing", 3)]) rfl sc_l_closes.nd (pi_tup (pv 1)) (blkOk_by (own := [("_law_standing", 3)]) (N := N_l_closes) (sc := defScope s_l_closes) (by decide +kernel)) (fun _ _ _ _ _ => (pg_name (i := 3) sc_l_closes.nd rfl (Or.inl rfl))) (fun _ _ _ _ _ => pts_nil) (fun _ _ _ _ _ => (pe_cmpR (op_in_seqK K rfl) (pv 2) (pe_ix (ix_tupK K rfl) (pe_fldK K rfl (pv 0) rfl) (pv 3) (fun _ _ => rfl)) rfl))) pa_nil)))), ?_⟩
    refine ⟨_, rfl, a, rfl, ⟨_, SqT.of ha⟩, fun D hD => lc_T (R := II H) BB.stb (f := fun s => decide (last ∈ at0 o.cl s)) hD (by rw [List.length_map, sizeLine_eq]; omega) (pmap_int ss) ha ?_ ?_⟩
    · rintro v x H' hx rfl k' Q' q'
      obtain ⟨x0, x1⟩ := hss x hx
      obtain ⟨row, hrow⟩ : ∃ row, o.cl[x.toNat]? = some row := ⟨_, List.getElem?_eq_getElem (by have := wf.cl; omega)⟩
      obtain ⟨cv, hcv, b, rfl, hb⟩ := pget pc hrow
      refine ⟨rfl, _, rfl, _, rfl, p, C, dx, _, _, rfl, k'.at hp, oc.c, oc.n3, offF_c _ _ _ _, _, rfl, c, cs, x, _, rfl, rfl, SqT.of (k'.at hc), atI_nat hcv (by omega), b, _, rfl, .inr (SqT.of (k'.at hb)), rfl, flat_int _, ?_⟩
      rw [inV_int]
      refine q' _ _ .refl ?_
      show V.bl (decide (last ∈ row)) = .bl (decide (last ∈ at0 o.cl x))
      rw [at0_of hrow]
    · intro H' ws k' hD' pw
      exact ⟨D, ss.map fun s => decide (last ∈ at0 o.cl s), rfl, SqL.of (by rw [hD']; exact congrArg (fun l => some (HO.lst l)) (paired_bl pw)), by rw [closes_any]; exact k _ k'⟩
theorem ok_l_all_steps : FnOk P w K mg base CX0 1 T.a_l_all_steps T.d_l_all_steps P_l_all_steps sp_lall := by
  refine T.F_l_all_steps.ok sc_l_all_steps (fun vs H Q E h => ?_) (fun cdv A outer s H vs Q E hr h => ?_)
  · obtain ⟨u, a, b, c, rfl, _⟩ := h; rfl
  · obtain ⟨u, a, b, c, rfl, ⟨z, rfl, hz⟩, ⟨a1, a2⟩, ⟨b1, b2⟩, ⟨c1, c2⟩, k⟩ := h
    refine ⟨_, (pss_cons (ps_set (i := 1) sc_l_all_steps.nd rfl (Or.inl rfl) (pe_lst pa_nil))
  (pss_cons (ps_for PassesOwn.never rfl (pi_range1 rfl T.n_range (pa_cons (pe_ix ix_tup (pv 0) pe_int (fun _ _ => rfl)) pa_nil)) (pg_name (i := 2) sc_l_all_steps.nd rfl (Or.inr rfl)) (pss_one (ps_for PassesOwn.never rfl (pi_range1 rfl T.n_range (pa_cons (pe_ix ix_tup (pv 0) pe_int (fun _ _ => rfl)) pa_nil)) (pg_name (i := 3) sc_l_all_steps.nd rfl (Or.inr rfl)) (pss_one (ps_set (i := 1) sc_l_all_steps.nd rfl (Or.inl rfl) (pe_op op_cat (pv 1) (pe_lc (own := [("_law_mark", 4)]) rfl sc_l_all_steps.nd (pi_range1 rfl T.n_range (pa_cons (pe_ix ix_tup (pv 0) pe_int (fun _ _ => rfl)) pa_nil)) (blkOk_by (own := [("_law_mark", 4)]) (N := N_l_all_steps) (sc := defScope s_l_all_steps) (by decide +kernel)) (fun _ _ _ _ _ => (pg_name (i := 4) sc_l_all_steps.nd rfl (Or.inl rfl))) (fun _ _ _ _ _ => pts_nil) (fun _ _ _ _ _ => (pe_tup (pa_cons (pv 2) (pa_cons (pv 3) (pa_cons (pv 4) pa_nil))))))))))))
  (pss_one (ps_ret (pv 1))))), ?_⟩
    refine ⟨by decide, fun l0 hl0 => ?_⟩
    let row := fun (s n : Int) => (ran c).map fun k => [s, n, k]
    have lrow : ∀ s n, (row s n).length = c.toNat := fun s n => by show ((ran c).map _).length = _; rw [List.length_map]; unfold ran; rw [List.length_map, List.length_range]
    have lran : ∀ x : Int, (ran x).length = x.toNat := fun x => by unfold ran; rw [List.length_map, List.length_range]
    have lfl : ∀ (xs : List Int) (s : Int), (xs.flatMap fun n => row s n).length = xs.length * c.toNat := fun xs s => by
      induction xs with
      | nil => simp
      | cons x xs ih => rw [List.flatMap_cons, List.length_append, ih, lrow, List.length_cons, Nat.succ_mul]; omega
    have lfl2 : ∀ (xs : List Int), (xs.flatMap fun s => (ran b).flatMap fun n => row s n).length = xs.length * (b.toNat * c.toNat) := fun xs => by
      induction xs with
      | nil => simp
      | cons x xs ih => rw [List.flatMap_cons, List.length_append, ih, lfl, lran, List.length_cons, Nat.succ_mul]; omega
    refine ⟨_, rfl, z, _, 0, _, rfl, rfl, SqT.of ((Ke.new hl0).at hz), rfl, a, rfl, by omega, by omega, for_range (fun i σ H' => (∃ l s2 s3, σ = [some (.ref z), some (.ref l), s2, s3, none] ∧ H l = none ∧ ∃ ws, H' l = some (.lst ws) ∧ Paired (TI H') ws (((List.range i).map Int.ofNat).flatMap fun s => (ran b).flatMap fun n => row s n)) ∧ Ke H H')
      ⟨⟨l0, _, _, rfl, hl0, [], upd_same, .nil⟩, Ke.new hl0⟩ ?_ ?_⟩
    · rintro i σ H1 hi ⟨⟨l, s2, s3, rfl, hl, ws, hw, pw⟩, k1⟩
      refine ⟨_, rfl, z, _, 1, _, rfl, rfl, SqT.of (k1.at hz), rfl, b, rfl, by omega, by omega, for_range (fun j σ H' => (∃ l s3, σ = [some (.ref z), some (.ref l), some (.int (0 + (i : Int))), s3, none] ∧ H l = none ∧ ∃ ws, H' l = some (.lst ws) ∧ Paired (TI H') ws ((((List.range i).map Int.ofNat).flatMap fun s => (ran b).flatMap fun n => row s n) ++ ((List.range j).map Int.ofNat).flatMap fun n => row i n)) ∧ Ke H H')
        ⟨⟨l, _, rfl, hl, ws, hw, by simpa using pw⟩, k1⟩ ?_ ?_⟩
      · rintro j σ H2 hj ⟨⟨l, s3, rfl, hl, ws, hw, pw⟩, k2⟩
        have lw := plen pw
        have lw2 : ws.length ≤ 63 * (63 * 63) + 63 * 63 := by
          rw [lw, List.length_append, lfl2, lfl, List.length_map, List.length_map, List.length_range, List.length_range]
          have h1 : i * (b.toNat * c.toNat) ≤ 63 * (63 * 63) := Nat.mul_le_mul (by omega) (Nat.mul_le_mul (by omega) (by omega))
          have h2 : j * c.toNat ≤ 63 * 63 := Nat.mul_le_mul (by omega) (by omega)
          omega
        refine ⟨_, rfl, _, rfl, z, _, 2, _, rfl, rfl, SqT.of (k2.at hz), rfl, c, rfl, by omega, by omega, fun D hD => ?_⟩
        refine lw_range (fun q H' => Ke H2 H' ∧ ∃ ws', H' D = some (.lst ws') ∧ Paired (TI H') ws' (((List.range q).map Int.ofNat).map fun k => [(i : Int), (j : Int), k])) ⟨Ke.new hD, [], upd_same, .nil⟩ ?_ ?_
        · rintro q H3 hq ⟨k3, ws3, hw3, pw3⟩
          have l3 := plen pw3
          refine ⟨rfl, _, rfl, _, rfl, _, rfl, (by show 3 ≤ sizeLine; decide), fun t ht => ⟨ws3, (Ke.new ht).at hw3, ?_, (k3.trans (Ke.new ht)).mutNew hD, _, upd_same, ?_⟩⟩
          · rw [l3, List.length_map, List.length_map, List.length_range, sizeLine_eq]; omega
          · have tx := snoc_tx (ws := ws3 ++ [.ref t]) (Ke.new (o := .tup [.int (0 + (i : Int)), .int (0 + (j : Int)), .int (0 + (q : Int))]) ht).tx hw3
            rw [List.range_succ, List.map_append, List.map_append]
            refine papp (pimp (fun v x r => TI.stb _ _ v x tx r) pw3) (.cons ⟨t, rfl, ?_⟩ .nil)
            rw [upd_ne (ne_of_none hw3 ht).symm, upd_same]
            simp
        · rintro H3 ⟨k3, ws3, hw3, pw3⟩
          have l3 := plen pw3
          refine ⟨l, D, ws, ws3, rfl, rfl, k3.at hw, hw3, ?_, fun p hp => ?_⟩
          · rw [l3, List.length_map, List.length_map, List.length_range, sizeLine_eq]; omega
          · have kp : Ke H3 (upd H3 p (.lst (ws ++ ws3))) := Ke.new hp
            refine ⟨⟨p, _, rfl, (k2.trans k3).free hp, _, upd_same, ?_⟩, (k2.trans k3).trans kp⟩
            rw [ran_flat T (j : Int), ← List.append_assoc]
            exact papp (pimp (fun v x r => TI.stb _ _ v x (k3.trans kp).tx r) pw) (pimp (fun v x r => TI.stb _ _ v x kp.tx r) pw3)
      · rintro σ H2 ⟨⟨l, s3, rfl, hl, ws, hw, pw⟩, k2⟩
        refine ⟨⟨l, _, _, rfl, hl, ws, hw, ?_⟩, k2⟩
        rw [ran_flat T (i : Int)]
        exact pw
    · rintro σ H1 ⟨⟨l, s2, s3, rfl, hl, ws, hw, pw⟩, k1⟩
      refine ⟨_, rfl, k l ws _ hl k1 hw ?_⟩
      rw [← steps_flat]
      exact pw
end
end Fd
set_option Elab.async false
set_option linter.all false
set_option maxRecDepth 100000
set_option maxHeartbeats 4000000
/-! All true days of so many people, in plain lists. -/
namespace Fd
section
variable (o : Ofc) (St : List (List Int))
def layM : Nat → List (Wrd × List Int)
  | 0 => [([], [0])]
  | n + 1 => (layM n).flatMap fun x => St.filterMap fun st => if goalsM o x.2 st = [] then none else some (x.1 ++ [st], goalsM o x.2 st)
def lastsX (m : Int) (x : Wrd × List Int) : List Day := ((ran m).filter fun k => closesS o x.2 k).map fun k => (x.1, k)
def daysM (m : Int) (n : Nat) : List Day := (layM o St n).flatMap fun x => lastsX o m x
def allW : Nat → List Wrd
  | 0 => [[]]
  | n + 1 => (allW n).flatMap fun w => St.map fun st => w ++ [st]
end
variable {o : Ofc} {St : List (List Int)}
theorem setW_snoc (w : Wrd) (st : List Int) : setW o (w ++ [st]) = goalsM o (setW o w) st := by unfold setW; rw [List.foldl_append]; rfl
theorem allW_wd : ∀ {n : Nat} {w : Wrd}, w ∈ allW St n → Wd St w ∧ w.length = n
  | 0, w, h => by
    rw [List.mem_singleton.mp h]
    exact ⟨(fun st z => nomatch z), rfl⟩
  | n + 1, w, h => by
    obtain ⟨u, hu, h⟩ := List.mem_flatMap.mp h
    obtain ⟨st, hst, rfl⟩ := List.mem_map.mp h
    obtain ⟨h1, h2⟩ := allW_wd hu
    exact ⟨wd_snoc h1 hst, by rw [List.length_append, h2]; rfl⟩
theorem flat_congr {α β : Type} {f g : α → List β} : ∀ {l : List α}, (∀ a ∈ l, f a = g a) → l.flatMap f = l.flatMap g
  | [], _ => rfl
  | a :: l, h => by rw [List.flatMap_cons, List.flatMap_cons, h a (by simp), flat_congr fun b hb => h b (by simp [hb])]
theorem filterMap_flat {α β γ : Type} (f : α → Option β) (g : β → List γ) : ∀ l : List α, (l.filterMap f).flatMap g = l.flatMap fun a => match f a with | none => [] | some b => g b
  | [] => rfl
  | a :: l => by
    rw [List.filterMap_cons, List.flatMap_cons]
    cases e : f a with
    | none => simp [filterMap_flat f g l]
    | some b => simp [filterMap_flat f g l]
theorem flat_filterMap {α β γ : Type} (f : α → List β) (g : β → Option γ) : ∀ l : List α, (l.flatMap f).filterMap g = l.flatMap fun a => (f a).filterMap g
  | [] => rfl
  | a :: l => by rw [List.flatMap_cons, List.flatMap_cons, List.filterMap_append, flat_filterMap f g l]
theorem layM_all : ∀ n : Nat, layM o St n = (allW St n).filterMap fun w => if setW o w = [] then none else some (w, setW o w)
  | 0 => by
    show [(([] : Wrd), ([0] : List Int))] = _
    show _ = List.filterMap _ [[]]
    rw [List.filterMap_cons]
    have e : setW o [] = [0] := rfl
    rw [e]; rfl
  | n + 1 => by
    show (layM o St n).flatMap _ = ((allW St n).flatMap _).filterMap _
    rw [layM_all n, filterMap_flat, flat_filterMap]
    apply flat_congr
    intro w _
    rw [List.filterMap_map]
    by_cases c : setW o w = []
    · rw [if_pos c]
      symm
      show List.filterMap _ St = []
      rw [List.filterMap_eq_nil_iff]
      intro st _
      show (if setW o (w ++ [st]) = [] then none else some (w ++ [st], setW o (w ++ [st]))) = none
      rw [setW_snoc, c, goals_nil, if_pos rfl]
    · rw [if_neg c]
      show List.filterMap _ St = List.filterMap _ St
      congr 1
      funext st
      show _ = if setW o (w ++ [st]) = [] then none else some (w ++ [st], setW o (w ++ [st]))
      rw [setW_snoc]
theorem days_all (m : Int) (n : Nat) : daysM o St m n = (allW St n).flatMap fun w => lastsX o m (w, setW o w) := by
  unfold daysM
  rw [layM_all, filterMap_flat]
  apply flat_congr
  intro w _
  by_cases c : setW o w = []
  · rw [if_pos c]
    show [] = lastsX o m (w, setW o w)
    unfold lastsX
    rw [c]
    symm
    show List.map _ (List.filter _ (ran m)) = []
    rw [List.map_eq_nil_iff, List.filter_eq_nil_iff]
    intro k _
    unfold closesS
    rw [lasts_nil]; simp
  · rw [if_neg c]
/-- no parting of so many people: the days are the same -/
theorem days_same {o1 o2 : Ofc} {m : Int} {n : Nat} (h : ∀ w, Wd St w → w.length = n → ∀ last, ¬ PartsW o1 o2 m w last) : daysM o1 St m n = daysM o2 St m n := by
  rw [days_all, days_all]
  apply flat_congr
  intro w hw
  obtain ⟨h1, h2⟩ := allW_wd hw
  unfold lastsX
  congr 1
  apply List.filter_congr
  intro k hk
  have hk' := mem_ran.mp hk
  exact Classical.byContradiction fun z => h w h1 h2 k ⟨hk', z⟩
/-- a day that parts is true of just one -/
theorem true_one {o1 o2 : Ofc} {m : Int} {d : Day} (h : SD o1 o2 St m (some d)) : closesS o1 (setW o1 d.1) d.2 ≠ closesS o2 (setW o2 d.1) d.2 := h.2.1.2
theorem layM_len {N : Nat} (h : St.length ≤ N) : ∀ n : Nat, (layM o St n).length ≤ N ^ n
  | 0 => by show 1 ≤ N ^ 0; simp
  | n + 1 => by
    have ih := layM_len h n
    have h2 := flat_len (f := fun x : Wrd × List Int => St.filterMap fun st => if goalsM o x.2 st = [] then none else some (x.1 ++ [st], goalsM o x.2 st)) (n := N) (fun x => Nat.le_trans (List.length_filterMap_le _ _) h) (layM o St n)
    exact Nat.le_trans h2 (by rw [Nat.pow_succ]; exact Nat.mul_le_mul_right N ih)
theorem layM_ok (g : GoalsOk o) (n1 : 1 ≤ o.mv.length) : ∀ {n : Nat} {x : Wrd × List Int}, x ∈ layM o St n → x.1.length = n ∧ SetOk o x.2
  | 0, x, h => by
    rw [List.mem_singleton.mp h]
    exact ⟨rfl, by simp, by simp, fun y hy => by rw [List.mem_singleton.mp hy]; omega⟩
  | n + 1, x, h => by
    obtain ⟨y, hy, h⟩ := List.mem_flatMap.mp h
    obtain ⟨st, _, e⟩ := List.mem_filterMap.mp h
    by_cases c : goalsM o y.2 st = []
    · rw [if_pos c] at e; cases e
    · rw [if_neg c] at e
      cases e
      exact ⟨by show (y.1 ++ [st]).length = _; rw [List.length_append, (layM_ok g n1 hy).1]; rfl, goals_ok g c⟩
end Fd
set_option Elab.async false
set_option linter.all false
set_option maxRecDepth 100000
set_option maxHeartbeats 4000000
namespace Fd
open PySem PySem.Spec PyProof.Rows L2
theorem iteF' {c A B : Prop} [Decidable c] (h : ¬ c) (k : B) : if c then A else B := by rw [if_neg h]; exact k
theorem iteT' {c A B : Prop} [Decidable c] (h : c) (k : A) : if c then A else B := by rw [if_pos h]; exact k
/-- sets of standings of an office -/
def SetIn (o : Ofc) (s : List Int) : Prop := (∀ x ∈ s, 0 ≤ x ∧ x < o.mv.length) ∧ s.length < 1000000
theorem setIn_goals {o : Ofc} (w : Wf o) {s st : List Int} : SetIn o (goalsM o s st) := by
  by_cases c : goalsM o s st = []
  · rw [c]; exact ⟨(fun x h => nomatch h), by decide⟩
  · obtain ⟨_, h1, h2⟩ := goals_ok w.goals c
    refine ⟨h2, ?_⟩
    have := short_of (h1.imp fun {a b} h => (by omega : a ≠ b)) (n := o.mv.length) h2
    have := w.n2
    omega
theorem setIn_zero {o : Ofc} (w : Wf o) : SetIn o [0] := ⟨fun x hx => by rw [List.mem_singleton.mp hx]; have := w.n1; omega, by decide⟩
/-- a row of steps and one step more -/
theorem catS {K : PySem.W.Frag} {H : Hp} {v : V} {w : Wrd} {sa : Addr} {st : List Int} {Q : VK} (hs : SS H v w) (hst : TI H (.ref sa) st) (hl : w.length < 1000000) (k : ∀ v' H', Ke H H' → SS H' v' (w ++ [st]) → Q v' H') :
    ∀ p, H p = none → rCatA K v (.ref p) (upd H p (.tup [.ref sa])) Q := fun p hp => by
  obtain ⟨va, vw, rfl, hva, pva⟩ := hs
  have lva := plen pva
  have k1 : Ke H (upd H p (.tup [.ref sa])) := Ke.new hp
  refine ⟨va, p, vw, [.ref sa], rfl, rfl, SqT.of (k1.at hva), SqT.of upd_same, (by rw [sizeLine_eq]; simp; omega), fun z => ?_, (fun _ z => by cases z), fun _ _ b hb => ?_⟩
  · have e0 : w = [] := List.length_eq_zero_iff.mp (by rw [← lva, z]; rfl)
    refine k _ _ k1 ⟨p, [.ref sa], rfl, upd_same, ?_⟩
    rw [e0]
    exact .cons (TI.stb _ _ _ _ k1.tx hst) .nil
  · have kk : Ke H (upd (upd H p (.tup [.ref sa])) b (.tup (vw ++ [.ref sa]))) := k1.trans (Ke.new hb)
    exact k _ _ kk ⟨b, _, rfl, upd_same, papp (pimp (fun v x r => TI.stb _ _ v x kk.tx r) pva) (.cons (TI.stb _ _ _ _ kk.tx hst) .nil)⟩
/-- a begin: its steps and the standings behind it -/
def BgR : Rl (Wrd × List Int) := PP SS TI
theorem BgR.stb : Stb BgR := PP.stb SS.stb TI.stb
theorem DayR.pp {H : Hp} {v : V} {d : Day} : DayR H v d ↔ PP SS II H v d := ⟨fun ⟨t, w, e, h, s⟩ => ⟨t, w, _, e, h, s, rfl⟩, fun ⟨t, w, y, e, h, s, r⟩ => ⟨t, w, e, by rw [h, show y = .int d.2 from r], s⟩⟩
def sp_ltrue (K : PySem.W.Frag) : Sp := fun xs H Q _ => ∃ C p o v d, xs = [.ref p, v] ∧ OC K C ∧ OfAt C H p o ∧ Wf o ∧ DayR H v d ∧ ∀ H', Ke H H' → Q (.bl (closesS o (setW o d.1) d.2)) H'
def sp_ldays (K : PySem.W.Frag) : Sp := fun xs H Q _ => ∃ C p o, ∃ n : Nat, xs = [.ref p, .int n] ∧ OC K C ∧ OfAt C H p o ∧ Wf o ∧ n ≤ 2 ∧ (stepsOf o).length ≤ 64 ∧ ∀ l ws H', Ke H H' → H' l = some (.lst ws) → Paired (DayR H') ws (daysM o (stepsOf o) (o.sz.getD 2 0) n) → Q (.ref l) H'
section
variable {P : Program} {w : World} {K : PySem.W.Frag} {mg : Str → Option Value} {base : Heap} (T : Txt K mg)
include T
theorem ok_l_true : FnOk P w K mg base CX0 2 T.a_l_true T.d_l_true P_l_true (sp_ltrue K) := by
  refine T.F_l_true.ok sc_l_true (fun vs H Q E h => ?_) (fun cdv A outer s H vs Q E hr h => ?_)
  · obtain ⟨C, p, o, v, d, rfl, _⟩ := h; rfl
  · obtain ⟨C, p, o, v, d, rfl, oc, of, wf, ⟨t, wv, rfl, ht, ⟨wa, wws, rfl, hwa, pw⟩⟩, k⟩ := h
    refine ⟨_, (pss_cons (ps_set (i := 2) sc_l_true.nd rfl (Or.inl rfl) (pe_tup (pa_cons pe_int pa_nil)))
  (pss_cons (ps_for PassesOwn.never rfl (pi_tup (pe_ix ix_tup (pv 1) pe_int (fun _ _ => rfl))) (pg_name (i := 3) sc_l_true.nd rfl (Or.inl rfl)) (pss_one (ps_set (i := 2) sc_l_true.nd rfl (Or.inl rfl) (pe_call (ok_l_behind T) (hr.mono (by decide)) rfl T.g_l_behind T.k_l_behind T.b_l_behind .nil pass0 (pa_cons (pv 0) (pa_cons (pv 2) (pa_cons (pv 3) pa_nil)))))))
  (pss_one (ps_ret (pe_call (ok_l_closes T) (hr.mono (by decide)) rfl T.g_l_closes T.k_l_closes T.b_l_closes .nil pass0 (pa_cons (pv 0) (pa_cons (pv 2) (pa_cons (pe_ix ix_tup (pv 1) pe_int (fun _ _ => rfl)) pa_nil)))))))), ?_⟩
    refine ⟨by decide, fun t0 ht0 => ?_⟩
    have k0 : Ke H (upd H t0 (.tup [.int 0])) := Ke.new ht0
    refine ⟨_, rfl, t, _, 0, _, rfl, rfl, SqT.of (k0.at ht), rfl, wa, rfl, ⟨_, SqT.of (k0.at hwa)⟩, fo_T (R := TI H) (fun dn σ H' => (∃ u s3, σ = [some (.ref p), some (.ref t), some u, s3] ∧ TI H' u (setW o dn) ∧ SetIn o (setW o dn)) ∧ Ke H H') pw
      ⟨⟨_, _, rfl, ⟨t0, rfl, upd_same⟩, setIn_zero wf⟩, k0⟩ (fun dn σ H' q => q.2.at hwa) ?_ ?_⟩
    · rintro dn st r v σ H1 e ⟨sa, rfl, hsa⟩ ⟨⟨u, s3, rfl, hu, hin⟩, k1⟩
      refine ⟨_, rfl, _, rfl, _, rfl, C, p, o, u, _, setW o dn, st, rfl, oc, of.ke k1, wf, hu, ⟨sa, rfl, k1.at hsa⟩, hin.1, fun v' H2 k2 hv' => ⟨⟨v', _, rfl, ?_, ?_⟩, k1.trans k2⟩⟩
      · rw [setW_snoc]; exact hv'
      · rw [setW_snoc]; exact setIn_goals wf
    · rintro σ H1 ⟨⟨u, s3, rfl, hu, hin⟩, k1⟩
      exact ⟨_, rfl, _, rfl, _, rfl, t, _, 1, _, rfl, rfl, SqT.of (k1.at ht), rfl, C, p, o, u, setW o d.1, d.2, rfl, oc, of.ke k1, wf, hu, hin.1, hin.2, fun H2 k2 => k _ (k1.trans k2)⟩
theorem ok_l_days : FnOk P w K mg base CX0 2 T.a_l_days T.d_l_days P_l_days (sp_ldays K) := by
  refine T.F_l_days.ok sc_l_days (fun vs H Q E h => ?_) (fun cdv A outer s H vs Q E hr h => ?_)
  · obtain ⟨C, p, o, n, rfl, _⟩ := h; rfl
  · obtain ⟨C, p, o, n, rfl, oc, of, wf, hn, h64, k⟩ := h
    obtain ⟨a, b, c, ez, ha, hb, hc⟩ := wf.sz
    have est : stepsOf o = stepsM a b c := by unfold stepsOf; rw [ez]; rfl
    have ezc : o.sz.getD 2 0 = c := by rw [ez]; rfl
    rw [ezc] at k
    generalize hSt : stepsOf o = St at est h64 k
    have lay64 : ∀ m, m ≤ 2 → (layM o St m).length ≤ 4096 := fun m hm => Nat.le_trans (layM_len h64 m) (Nat.le_trans (Nat.pow_le_pow_right (by decide) hm : 64 ^ m ≤ 64 ^ 2) (by decide))
    obtain ⟨dx, vs, vm, vc, l0, ds, hp, ⟨zs, rfl, hzs⟩, _⟩ := of.ex
    rw [ez] at hzs
    refine ⟨_, (pss_cons (ps_set (i := 2) sc_l_days.nd rfl (Or.inl rfl) (pe_lst (pa_cons (pe_tup (pa_cons (pe_tup pa_nil) (pa_cons (pe_tup (pa_cons pe_int pa_nil)) pa_nil))) pa_nil)))
  (pss_cons (ps_for PassesOwn.never rfl (pi_range1 rfl T.n_range (pa_cons (pv 1) pa_nil)) (pg_name (i := 3) sc_l_days.nd rfl (Or.inl rfl)) (pss_cons (ps_set (i := 4) sc_l_days.nd rfl (Or.inl rfl) (pe_lst pa_nil))
  (pss_cons (ps_for PassesOwn.never rfl (pi_list (pv 2)) (pg_tup rfl (pgs_cons (pg_name (i := 5) sc_l_days.nd rfl (Or.inr rfl)) (pgs_cons (pg_name (i := 6) sc_l_days.nd rfl (Or.inr rfl)) pgs_nil))) (pss_one (ps_for PassesOwn.never rfl (pi_list (pe_call (ok_l_all_steps T) (hr.mono (by decide)) rfl T.g_l_all_steps T.k_l_all_steps T.b_l_all_steps .nil pass0 (pa_cons (pe_fld (pv 0) rfl) pa_nil))) (pg_name (i := 7) sc_l_days.nd rfl (Or.inl rfl)) (pss_cons (ps_set (i := 8) sc_l_days.nd rfl (Or.inl rfl) (pe_call (ok_l_behind T) (hr.mono (by decide)) rfl T.g_l_behind T.k_l_behind T.b_l_behind .nil pass0 (pa_cons (pv 0) (pa_cons (pv 6) (pa_cons (pv 7) pa_nil)))))
  (pss_one (ps_if (pt_cmpR op_gt (pe_callB call_len (by rfl) T.n_len (by decide +kernel) (pa_cons (pv 8) pa_nil)) pe_int (nomark _)) (pss_one (ps_expr (pe_bm PySem.F.plainAttrs_list PySem.F.slot_list_append PySem.F.type_list_append mt_append (pv 4) (pa_cons (pe_tup (pa_cons (pe_op op_catA (pv 5) (pe_tup (pa_cons (pv 7) pa_nil))) (pa_cons (pv 8) pa_nil))) pa_nil)))) pss_nil))))))
  (pss_one (ps_set (i := 2) sc_l_days.nd rfl (Or.inl rfl) (pv 4))))))
  (pss_cons (ps_set (i := 9) sc_l_days.nd rfl (Or.inl rfl) (pe_lst pa_nil))
  (pss_cons (ps_for PassesOwn.never rfl (pi_list (pv 2)) (pg_tup rfl (pgs_cons (pg_name (i := 5) sc_l_days.nd rfl (Or.inr rfl)) (pgs_cons (pg_name (i := 6) sc_l_days.nd rfl (Or.inr rfl)) pgs_nil))) (pss_one (ps_set (i := 9) sc_l_days.nd rfl (Or.inl rfl) (pe_op op_cat (pv 9) (pe_lc (own := [("_law_last", 10)]) rfl sc_l_days.nd (pi_range1 rfl T.n_range (pa_cons (pe_ix ix_tup (pe_fld (pv 0) rfl) pe_int (fun _ _ => rfl)) pa_nil)) (blkOk_by (own := [("_law_last", 10)]) (N := N_l_days) (sc := defScope s_l_days) (by decide +kernel)) (fun _ _ _ _ _ => (pg_name (i := 10) sc_l_days.nd rfl (Or.inl rfl))) (fun _ _ _ _ _ => pts_one (pt_val (pe_call (ok_l_closes T) (hr.mono (by decide)) rfl T.g_l_closes T.k_l_closes T.b_l_closes .nil pass0 (pa_cons (pv 0) (pa_cons (pv 6) (pa_cons (pv 10) pa_nil)))))) (fun _ _ _ _ _ => (pe_tup (pa_cons (pv 5) (pa_cons (pv 10) pa_nil)))))))))
  (pss_one (ps_ret (pv 9))))))), ?_⟩
    refine ⟨by decide, fun e0 he0 => ⟨by decide, fun z0 hz0 => ⟨(by show 2 ≤ sizeLine; decide), fun t0 ht0 => ⟨(by show 1 ≤ sizeLine; decide), fun l hl => ?_⟩⟩⟩⟩
    have k0 : Ke H (upd (upd (upd (upd H e0 (.tup [])) z0 (.tup [.int 0])) t0 (.tup [.ref e0, .ref z0])) l (.lst [.ref t0])) := (((Ke.new he0).trans (Ke.new hz0)).trans (Ke.new ht0)).trans (Ke.new hl)
    have b0 : BgR (upd (upd (upd (upd H e0 (.tup [])) z0 (.tup [.int 0])) t0 (.tup [.ref e0, .ref z0])) l (.lst [.ref t0])) (.ref t0) ([], [0]) :=
      ⟨t0, _, _, rfl, (Ke.new hl).at upd_same, ⟨e0, [], rfl, (((Ke.new hz0).trans (Ke.new ht0)).trans (Ke.new hl)).at upd_same, .nil⟩, ⟨z0, rfl, ((Ke.new ht0).trans (Ke.new hl)).at upd_same⟩⟩
    have hl0 : (upd (upd (upd (upd H e0 (.tup [])) z0 (.tup [.int 0])) t0 (.tup [.ref e0, .ref z0])) l (.lst [.ref t0])) l = some (.lst [.ref t0]) := upd_same
    generalize upd (upd (upd (upd H e0 (.tup [])) z0 (.tup [.int 0])) t0 (.tup [.ref e0, .ref z0])) l (.lst [.ref t0]) = H0 at k0 b0 hl0 ⊢
    refine ⟨_, rfl, (n : Int), rfl, by omega, by omega, for_range (n := ((n : Int)).toNat) (fun m σ H' => (∃ l s3 s4 s5 s6 s7 s8, σ = [some (.ref p), some (.int n), some (.ref l), s3, s4, s5, s6, s7, s8, none, none] ∧ ∃ ws, H' l = some (.lst ws) ∧ Paired (BgR H') ws (layM o St m)) ∧ Ke H H')
      ⟨⟨l, _, _, _, _, _, _, rfl, _, hl0, .cons b0 .nil⟩, k0⟩ ?_ ?_⟩
    · rintro m σ H1 hm ⟨⟨l, s3, s4, s5, s6, s7, s8, rfl, ws, hw, pw⟩, k1⟩
      rw [Int.toNat_natCast] at hm
      refine ⟨by decide, fun g hg => ?_⟩
      have kg : Ke H1 (upd H1 g (.lst [])) := Ke.new hg
      have ngl : l ≠ g := ne_of_none hw hg
      have hgH : H g = none := k1.free hg
      let nxt := fun x : Wrd × List Int => St.filterMap fun st => if goalsM o x.2 st = [] then none else some (x.1 ++ [st], goalsM o x.2 st)
      refine ⟨_, rfl, l, rfl, ⟨_, SqL.of (kg.at hw)⟩, fo_L (R := BgR H1) (fun dn σ H' => (∃ s5 s6 s7 s8, σ = [some (.ref p), some (.int n), some (.ref l), some (.int (0 + (m : Int))), some (.ref g), s5, s6, s7, s8, none, none]) ∧ (Ke H H' ∧ Ks (fun a => a = g) H1 H') ∧ ∃ ws', H' g = some (.lst ws') ∧ Paired (BgR H') ws' (dn.flatMap nxt)) pw
        ⟨⟨_, _, _, _, rfl⟩, ⟨k1.trans kg, kg.ks⟩, [], upd_same, .nil⟩ (fun dn σ H' q => q.2.1.2.keep _ _ ngl hw) ?_ ?_⟩
      · rintro dn x r v σ H2 e ⟨bt, bu, bv, rfl, hbt, hbu, hbv⟩ ⟨⟨s5, s6, s7, s8, rfl⟩, ⟨k2, k12⟩, ws2, hg2, pw2⟩
        have tx12 := k12.tx
        have hxm : x ∈ layM o St m := by rw [e]; simp
        obtain ⟨lx, sx⟩ := layM_ok wf.goals wf.n1 hxm
        have ldn : dn.length < 4096 := by have := lay64 m (by omega); rw [e] at this; simp at this; omega
        refine ⟨bt, _, rfl, SqT.of (tx12.tup _ _ hbt), rfl, _, _, rfl, _, _, rfl, rfl, ?_⟩
        refine ⟨_, rfl, p, C, dx, _, _, rfl, k2.at hp, oc.c, oc.n1, offF_s _ _ _ _, _, a, b, c, rfl, ⟨zs, rfl, k2.at hzs⟩, ha, hb, hc, fun sl sws H3 hsl k3 hsl3 psl => ?_⟩
        rw [← est] at psl
        have hbu3 := SS.stb _ _ _ _ (tx12.trans k3.tx) hbu
        have hbv3 := TI.stb _ _ _ _ (tx12.trans k3.tx) hbv
        have nsg : sl ≠ g := fun z => by rw [z, hg2] at hsl; cases hsl
        refine ⟨sl, rfl, ⟨_, SqL.of hsl3⟩, fo_L (R := TI H3) (fun dn' σ H' => (∃ s7 s8, σ = [some (.ref p), some (.int n), some (.ref l), some (.int (0 + (m : Int))), some (.ref g), some bu, some bv, s7, s8, none, none]) ∧ (Ke H H' ∧ Ks (fun a => a = g) H1 H' ∧ Ks (fun a => a = g) H3 H') ∧ ∃ ws', H' g = some (.lst ws') ∧ Paired (BgR H') ws' ((dn.flatMap nxt) ++ dn'.filterMap fun st => if goalsM o x.2 st = [] then none else some (x.1 ++ [st], goalsM o x.2 st))) psl
          ⟨⟨_, _, rfl⟩, ⟨k2.trans k3, k12.trans k3.ks, .refl⟩, ws2, k3.at hg2, by simpa using pimp (fun v x r => BgR.stb _ _ v x k3.tx r) pw2⟩ (fun dn' σ H' q => q.2.1.2.2.keep _ _ nsg hsl3) ?_ ?_⟩
        · rintro dn' st r' v σ H4 e' ⟨sa, rfl, hsa⟩ ⟨⟨s7, s8, rfl⟩, ⟨k4, k14, k34⟩, ws4, hg4, pw4⟩
          have hsa4 := k34.tup _ _ hsa
          have hbu4 := SS.stb _ _ _ _ k34.tx hbu3
          have hbv4 := TI.stb _ _ _ _ k34.tx hbv3
          have lw := plen pw4
          have lw4 : ws4.length ≤ 4096 * 64 + 64 := by
            have h1 := flat_len (f := nxt) (n := 64) (fun y => Nat.le_trans (List.length_filterMap_le _ _) h64) dn
            have h2 : (dn'.filterMap fun st => if goalsM o x.2 st = [] then none else some (x.1 ++ [st], goalsM o x.2 st)).length ≤ 64 := by
              refine Nat.le_trans (List.length_filterMap_le _ _) (Nat.le_trans ?_ h64)
              rw [e']; simp
            rw [lw, List.length_append]
            have := Nat.mul_le_mul_right 64 (Nat.le_of_lt ldn)
            omega
          refine ⟨_, rfl, _, rfl, _, rfl, C, p, o, bv, _, x.2, st, rfl, oc, of.ke k4, wf, hbv4, ⟨sa, rfl, hsa4⟩, sx.2.2, fun gv H5 k5 hgv => ?_⟩
          obtain ⟨ga, rfl, hga⟩ := id hgv
          refine ⟨_, rfl, .ref ga, _, rfl, .inr ⟨_, SqT.of hga, rfl⟩, _, _, rfl, rfl, _, rfl, ?_⟩
          rw [List.filterMap_append]
          by_cases c0 : goalsM o x.2 st = []
          · have e2 : List.filterMap (fun st => if goalsM o x.2 st = [] then none else some (x.1 ++ [st], goalsM o x.2 st)) [st] = [] := by
              rw [List.filterMap_cons, if_pos c0]; rfl
            rw [e2, List.append_nil]
            refine ifF (by rw [c0]; simp) ⟨⟨_, _, rfl⟩, ⟨k4.trans k5, k14.trans k5.ks, k34.trans k5.ks⟩, ws4, k5.at hg4, pimp (fun v x r => BgR.stb _ _ v x k5.tx r) pw4⟩
          · have e2 : List.filterMap (fun st => if goalsM o x.2 st = [] then none else some (x.1 ++ [st], goalsM o x.2 st)) [st] = [(x.1 ++ [st], goalsM o x.2 st)] := by
              rw [List.filterMap_cons, if_neg c0]; rfl
            rw [e2]
            have lg : 0 < (goalsM o x.2 st).length := List.length_pos_iff.mpr c0
            refine ifT (by rw [List.length_map]; omega) ⟨_, rfl, .inl ⟨rfl, _, SqL.of (k5.at hg4)⟩, _, rfl, _, rfl, (by show 1 ≤ sizeLine; decide), catS (SS.stb _ _ _ _ k5.tx hbu4) ⟨sa, rfl, k5.at hsa4⟩ (by omega) fun lv H6 k6 hlv => ⟨_, rfl, (by show 2 ≤ sizeLine; decide), fun t ht => ?_⟩⟩
            have k7 : Ke H6 (upd H6 t (.tup [lv, .ref ga])) := Ke.new ht
            have hg7 := k7.at (k6.at (k5.at hg4))
            have k47 : Ke H4 (upd H6 t (.tup [lv, .ref ga])) := (k5.trans k6).trans k7
            refine ⟨g, ws4, _, rfl, rfl, hg7, by rw [sizeLine_eq]; omega, ?_⟩
            have ntg : t ≠ g := (ne_of_none (k6.at (k5.at hg4)) ht).symm
            have tx := snoc_tx (ws := ws4 ++ [.ref t]) k47.tx hg4
            have ke8 : Ks (fun a => a = g) H4 (upd (upd H6 t (.tup [lv, .ref ga])) g (.lst (ws4 ++ [.ref t]))) := k47.ks.mut rfl (fun ys z => by rw [hg7] at z; cases z)
            refine ⟨⟨_, _, rfl⟩, ⟨(k4.trans k47).mutNew hgH, k14.trans ke8, k34.trans ke8⟩, _, upd_same, ?_⟩
            rw [← List.append_assoc]
            refine papp (pimp (fun v x r => BgR.stb _ _ v x tx r) pw4) (.cons ⟨t, _, _, rfl, by rw [upd_ne ntg]; exact upd_same, ?_, ?_⟩ .nil)
            · exact SS.stb _ _ _ _ (snoc_tx (ws := ws4 ++ [.ref t]) k7.tx (k6.at (k5.at hg4))) hlv
            · exact TI.stb _ _ _ _ (snoc_tx (ws := ws4 ++ [.ref t]) (k6.trans k7).tx (k5.at hg4)) hgv
        · rintro σ H4 ⟨⟨s7, s8, rfl⟩, ⟨k4, k14, k34⟩, ws4, hg4, pw4⟩
          refine ⟨⟨_, _, _, _, rfl⟩, ⟨k4, k14⟩, ws4, hg4, ?_⟩
          rw [List.flatMap_append, List.flatMap_singleton]
          exact pw4
      · rintro σ H2 ⟨⟨s5, s6, s7, s8, rfl⟩, ⟨k2, k12⟩, ws2, hg2, pw2⟩
        exact ⟨_, rfl, ⟨g, _, _, _, _, _, _, rfl, ws2, hg2, pw2⟩, k2⟩
    · rintro σ H1 ⟨⟨l, s3, s4, s5, s6, s7, s8, rfl, ws, hw, pw⟩, k1⟩
      rw [Int.toNat_natCast] at pw
      refine ⟨by decide, fun f hf => ?_⟩
      have kf : Ke H1 (upd H1 f (.lst [])) := Ke.new hf
      refine ⟨_, rfl, l, rfl, ⟨_, SqL.of (kf.at hw)⟩, fo_L (R := BgR H1) (fun dn σ H' => (∃ f s3 s4 s5 s6 s7 s8, σ = [some (.ref p), some (.int n), some (.ref l), s3, s4, s5, s6, s7, s8, some (.ref f), none] ∧ ∃ ws', H' f = some (.lst ws') ∧ Paired (DayR H') ws' (dn.flatMap fun x => lastsX o c x)) ∧ (Ke H H' ∧ Ke H1 H')) pw
        ⟨⟨f, _, _, _, _, _, _, rfl, [], upd_same, .nil⟩, k1.trans kf, kf⟩ (fun dn σ H' q => q.2.2.at hw) ?_ ?_⟩
      · rintro dn x r v σ H2 e ⟨bt, bu, bv, rfl, hbt, hbu, hbv⟩ ⟨⟨f, s3, s4, s5, s6, s7, s8, rfl, ws2, hf2, pw2⟩, k2, k12⟩
        have hxm : x ∈ layM o St n := by rw [e]; simp
        obtain ⟨lx, sx⟩ := layM_ok wf.goals wf.n1 hxm
        have sin : SetIn o x.2 := by
          refine ⟨sx.2.2, ?_⟩
          have := short_of (sx.2.1.imp fun {a b} h => (by omega : a ≠ b)) (n := o.mv.length) sx.2.2
          have := wf.n2
          omega
        have llx : ∀ y : Wrd × List Int, (lastsX o c y).length ≤ 63 := fun y => by
          unfold lastsX
          rw [List.length_map]
          refine Nat.le_trans (List.length_filter_le _ _) ?_
          unfold ran; rw [List.length_map, List.length_range]; omega
        have lw2 : ws2.length ≤ 4096 * 63 := by
          rw [plen pw2]
          have h1 := flat_len (f := fun x => lastsX o c x) (n := 63) llx dn
          have ldn : dn.length ≤ 4096 := by have := lay64 n hn; rw [e] at this; simp at this; omega
          have := Nat.mul_le_mul_right 63 ldn
          omega
        refine ⟨bt, _, rfl, SqT.of (k12.at hbt), rfl, _, _, rfl, _, _, rfl, rfl, ?_⟩
        refine ⟨_, rfl, _, rfl, p, C, dx, _, _, rfl, k2.at hp, oc.c, oc.n1, offF_s _ _ _ _, zs, _, 2, _, rfl, rfl, SqT.of (k2.at hzs), rfl, c, rfl, by omega, by omega, fun D hD => ?_⟩
        have hbu2 := SS.stb _ _ _ _ k12.tx hbu
        have hbv2 := TI.stb _ _ _ _ k12.tx hbv
        refine lw_range (fun q H' => Ke H2 H' ∧ ∃ ws', H' D = some (.lst ws') ∧ Paired (DayR H') ws' ((((List.range q).map Int.ofNat).filter fun k => closesS o x.2 k).map fun k => (x.1, k))) ⟨Ke.new hD, [], upd_same, .nil⟩ ?_ ?_
        · rintro q H3 hq ⟨k3, ws3, hw3, pw3⟩
          have l3 : ws3.length ≤ q := by
            rw [plen pw3, List.length_map]
            refine Nat.le_trans (List.length_filter_le _ _) ?_
            rw [List.length_map, List.length_range]; exact Nat.le_refl _
          refine ⟨rfl, _, rfl, _, rfl, _, rfl, C, p, o, bv, x.2, _, rfl, oc, (of.ke k2).ke k3, wf, TI.stb _ _ _ _ k3.tx hbv2, sin.1, sin.2, fun H4 k4 => ⟨_, rfl, ?_⟩⟩
          rw [List.range_succ, List.map_append, List.filter_append, List.map_append]
          have e0 : (0 : Int) + (q : Int) = Int.ofNat q := by rw [Int.zero_add]; rfl
          rw [e0]
          by_cases cc : closesS o x.2 (Int.ofNat q) = true
          · have e2 : List.filter (fun k => closesS o x.2 k) (List.map Int.ofNat [q]) = [Int.ofNat q] := by
              show List.filter _ [Int.ofNat q] = _
              rw [List.filter_cons, if_pos cc]; rfl
            rw [e2, cc]
            refine iteT ⟨_, rfl, _, rfl, (by show 2 ≤ sizeLine; decide), fun t ht => ⟨ws3, (Ke.new ht).at (k4.at hw3), by rw [sizeLine_eq]; omega, ((k3.trans k4).trans (Ke.new ht)).mutNew hD, _, upd_same, ?_⟩⟩
            have tx := snoc_tx (ws := ws3 ++ [.ref t]) (k4.trans (Ke.new (o := .tup [bu, .int (Int.ofNat q)]) ht)).tx hw3
            have ntD : t ≠ D := (ne_of_none (k4.at hw3) ht).symm
            refine papp (pimp (fun v x r => DayR.stb _ _ v x tx r) pw3) (.cons ⟨t, bu, rfl, by rw [upd_ne ntD]; exact upd_same, SS.stb _ _ _ _ (k3.tx.trans tx) hbu2⟩ .nil)
          · have e2 : List.filter (fun k => closesS o x.2 k) (List.map Int.ofNat [q]) = [] := by
              show List.filter _ [Int.ofNat q] = _
              rw [List.filter_cons, if_neg cc]; rfl
            rw [e2]
            refine iteF' cc ⟨k3.trans k4, ws3, k4.at hw3, ?_⟩
            simpa using pimp (fun v x r => DayR.stb _ _ v x k4.tx r) pw3
        · rintro H3 ⟨k3, ws3, hw3, pw3⟩
          have l3 : ws3.length ≤ 63 := by
            have := plen pw3
            rw [this, List.length_map]
            refine Nat.le_trans (List.length_filter_le _ _) ?_
            rw [List.length_map, List.length_range]; omega
          refine ⟨f, D, ws2, ws3, rfl, rfl, k3.at hf2, hw3, by rw [sizeLine_eq]; omega, fun p2 hp2 => ?_⟩
          have kp : Ke H3 (upd H3 p2 (.lst (ws2 ++ ws3))) := Ke.new hp2
          refine ⟨⟨p2, _, _, _, _, _, _, rfl, _, upd_same, ?_⟩, (k2.trans k3).trans kp, (k12.trans k3).trans kp⟩
          rw [List.flatMap_append, List.flatMap_singleton]
          exact papp (pimp (fun v x r => DayR.stb _ _ v x (k3.trans kp).tx r) pw2) (pimp (fun v x r => DayR.stb _ _ v x kp.tx r) pw3)
      · rintro σ H2 ⟨⟨f, s3, s4, s5, s6, s7, s8, rfl, ws2, hf2, pw2⟩, k2, _⟩
        exact ⟨_, rfl, k f ws2 _ k2 hf2 pw2⟩
end
end Fd
set_option Elab.async false
set_option linter.all false
set_option maxRecDepth 100000
set_option maxHeartbeats 4000000
/-! The law's own way through the pairs of sets. -/
namespace Fd
abbrev Pr : Type := List Int × List Int
def nxS (o1 o2 : Ofc) (g : Pr) (st : List Int) : Pr := (goalsM o1 g.1 st, goalsM o2 g.2 st)
def PtS (o1 o2 : Ofc) (m : Int) (g : Pr) (last : Int) : Prop := (0 ≤ last ∧ last < m) ∧ closesS o1 g.1 last ≠ closesS o2 g.2 last
theorem wkS {o1 o2 : Ofc} (w : Wrd) : wk ([0], [0]) (nxS o1 o2) w = (setW o1 w, setW o2 w) := by
  have : ∀ (w : Wrd) (a b : List Int), w.foldl (nxS o1 o2) (a, b) = (w.foldl (goalsM o1) a, w.foldl (goalsM o2) b) := by
    intro w
    induction w with
    | nil => intro a b; rfl
    | cons st w ih => intro a b; exact ih _ _
  exact this w [0] [0]
theorem ptS_iff {o1 o2 : Ofc} {m : Int} {w : Wrd} {last : Int} : PtS o1 o2 m (wk ([0], [0]) (nxS o1 o2) w) last ↔ PartsW o1 o2 m w last := by rw [wkS]; exact Iff.rfl
/-- the later layer, while it is made -/
structure Lp (o1 o2 : Ofc) (St : List (List Int)) (met : List Pr) (lay : List (Pr × Wrd)) (D : Pr × Wrd → List Int → Prop) (lat : List (Pr × Wrd)) : Prop where
  nd : (met ++ lat.map (·.1)).Nodup
  ok : ∀ x ∈ lat, ∃ y ∈ lay, ∃ st ∈ St, D y st ∧ x = (nxS o1 o2 y.1 st, y.2 ++ [st])
  cp : ∀ y st, D y st → y ∈ lay → st ∈ St → nxS o1 o2 y.1 st ∉ met → ∃ ss, (nxS o1 o2 y.1 st, ss) ∈ lat ∧ wlt (y.2 ++ [st]) ss = false
  as : lat.Pairwise fun x y => wlt x.2 y.2 = true
section
variable {o1 o2 : Ofc} {St : List (List Int)} {met : List Pr} {lay lat : List (Pr × Wrd)} {D D' : Pr × Wrd → List Int → Prop}
theorem Lp.start (h : met.Nodup) : Lp o1 o2 St met lay (fun _ _ => False) [] := ⟨by simpa using h, (fun x hx => nomatch hx), (fun _ _ z => z.elim), .nil⟩
theorem Lp.mono (x : Lp o1 o2 St met lay D lat) (h : ∀ y st, y ∈ lay → st ∈ St → (D y st ↔ D' y st)) : Lp o1 o2 St met lay D' lat :=
  ⟨x.nd, fun z hz => by obtain ⟨y, hy, st, hst, d, e⟩ := x.ok z hz; exact ⟨y, hy, st, hst, (h y st hy hst).mp d, e⟩, fun y st d hy hst => x.cp y st ((h y st hy hst).mpr d) hy hst, x.as⟩
theorem Lp.skip (x : Lp o1 o2 St met lay D lat) {y0 : Pr × Wrd} {st0 : List Int} (hg : nxS o1 o2 y0.1 st0 ∈ met ++ lat.map (·.1)) (ah : ∀ z ∈ lat, wlt z.2 (y0.2 ++ [st0]) = true) :
    Lp o1 o2 St met lay (fun y st => D y st ∨ (y = y0 ∧ st = st0)) lat :=
  ⟨x.nd, fun z hz => by obtain ⟨y, hy, st, hst, d, e⟩ := x.ok z hz; exact ⟨y, hy, st, hst, .inl d, e⟩, fun y st d hy hst hn => by
    rcases d with d | ⟨rfl, rfl⟩
    · exact x.cp y st d hy hst hn
    · rcases List.mem_append.mp hg with z | z
      · exact absurd z hn
      · obtain ⟨p, hp, e⟩ := List.mem_map.mp z
        exact ⟨p.2, by rw [← e]; exact hp, wlt_asym (ah p hp)⟩, x.as⟩
theorem Lp.push (x : Lp o1 o2 St met lay D lat) {y0 : Pr × Wrd} {st0 : List Int} (hy0 : y0 ∈ lay) (hs0 : st0 ∈ St) (hg : nxS o1 o2 y0.1 st0 ∉ met ++ lat.map (·.1)) (ah : ∀ z ∈ lat, wlt z.2 (y0.2 ++ [st0]) = true) :
    Lp o1 o2 St met lay (fun y st => D y st ∨ (y = y0 ∧ st = st0)) (lat ++ [(nxS o1 o2 y0.1 st0, y0.2 ++ [st0])]) :=
  ⟨by rw [List.map_append, ← List.append_assoc]; exact L2.nd_snoc x.nd hg, fun z hz => by
    rcases List.mem_append.mp hz with q | q
    · obtain ⟨y, hy, st, hst, d, e⟩ := x.ok z q
      exact ⟨y, hy, st, hst, .inl d, e⟩
    · exact ⟨y0, hy0, st0, hs0, .inr ⟨rfl, rfl⟩, List.mem_singleton.mp q⟩, fun y st d hy hst hn => by
    rcases d with d | ⟨rfl, rfl⟩
    · obtain ⟨ss, h1, h2⟩ := x.cp y st d hy hst hn
      exact ⟨ss, List.mem_append_left _ h1, h2⟩
    · exact ⟨_, List.mem_append_right _ (List.mem_singleton.mpr rfl), wlt_irr _⟩, by
    rw [List.pairwise_append]
    exact ⟨x.as, by simp, fun a ha b hb => by rw [List.mem_singleton.mp hb]; exact ah a ha⟩⟩
/-- the words so far are ahead of the next one -/
theorem Lp.ahead {n : Nat} {dn r : List (Pr × Wrd)} {y0 : Pr × Wrd} {dn' r' : List (List Int)} {st0 : List Int} (x : Lp o1 o2 St met lay (fun y st => y ∈ dn ∨ (y = y0 ∧ st ∈ dn')) lat) (el : lay = dn ++ y0 :: r) (es : St = dn' ++ st0 :: r')
    (asl : lay.Pairwise fun x y => wlt x.2 y.2 = true) (ass : St.Pairwise (· < ·)) (len : ∀ y ∈ lay, y.2.length = n) : ∀ z ∈ lat, wlt z.2 (y0.2 ++ [st0]) = true := fun z hz => by
  obtain ⟨y, hy, st, hst, d, rfl⟩ := x.ok z hz
  show wlt (y.2 ++ [st]) (y0.2 ++ [st0]) = true
  have hy0 : y0 ∈ lay := by rw [el]; simp
  rw [wlt_snoc _ _ _ _ ((len y hy).trans (len y0 hy0).symm)]
  rcases d with d | ⟨rfl, d⟩
  · rw [el, List.pairwise_append] at asl
    have h := asl.2.2 y d y0 (by simp)
    rw [if_neg (fun e => by rw [e, wlt_irr] at h; cases h)]
    exact h
  · rw [if_pos rfl]
    rw [es, List.pairwise_append] at ass
    exact decide_eq_true (ass.2.2 st d st0 (by simp))
/-- a layer is done -/
theorem Lp.bf {m : Int} {n : Nat} (x : Lp o1 o2 St met lay (fun y _ => y ∈ lay) lat) (b : BF ([0], [0]) (nxS o1 o2) St (fun _ => False) (PtS o1 o2 m) n (· ∈ met) lay) (np : ∀ y ∈ lay, ∀ last, ¬ PtS o1 o2 m y.1 last) :
    BF ([0], [0]) (nxS o1 o2) St (fun _ => False) (PtS o1 o2 m) (n + 1) (· ∈ met ++ lat.map (·.1)) lat := by
  have nd2 := List.nodup_append.mp x.nd
  refine b.step (fun _ _ _ z => z) np (fun _ _ z => z.elim) nd2.2.1 (fun z hz => ?_) (fun y hy st hst hm _ => ?_) fun k => ?_
  · obtain ⟨y, hy, st, hst, _, e⟩ := x.ok z hz
    exact ⟨fun q => nd2.2.2 _ q _ (List.mem_map.mpr ⟨z, hz, rfl⟩) rfl, (fun z => z), y, hy, st, hst, e⟩
  · exact x.cp y st hy hy hst hm
  · rw [List.mem_append, List.mem_map]
theorem setIn_len {B : List Pr} {m : Int} {n : Nat} (b : BF ([0], [0]) (nxS o1 o2) St (fun _ => False) (PtS o1 o2 m) n (· ∈ met) lay) (nd : met.Nodup) (hB : ∀ w, Wd St w → (setW o1 w, setW o2 w) ∈ B) : met.length ≤ B.length :=
  len_sub nd fun k hk => by
    obtain ⟨w, hw, _, e, _⟩ := (b.mt k).mp hk
    rw [wkS] at e
    rw [← e]; exact hB w hw
end
theorem ran_asc (n : Int) : (ran n).Pairwise (· < ·) := by
  have e : ran n = ran (n.toNat : Nat) := by unfold ran; rw [Int.toNat_natCast]
  rw [e]; exact ran_sorted _
theorem steps_asc (a b c : Int) : (stepsM a b c).Pairwise (· < ·) := by
  unfold stepsM
  rw [List.pairwise_flatMap]
  refine ⟨fun x _ => ?_, ?_⟩
  · rw [List.pairwise_map]
    refine (ran_asc c).imp fun {p q} h => ?_
    have : ∀ x : List Int, x ++ [p] < x ++ [q] := fun x => by
      induction x with
      | nil => exact List.cons_lt_cons_iff.mpr (.inl h)
      | cons y x ih => exact List.cons_lt_cons_iff.mpr (.inr ⟨rfl, ih⟩)
    exact this x
  · rw [List.pairwise_flatMap]
    refine ⟨fun s _ => ?_, ?_⟩
    · rw [List.pairwise_map]
      refine (ran_asc b).imp fun {p q} h x hx y hy => ?_
      obtain ⟨k, _, rfl⟩ := List.mem_map.mp hx
      obtain ⟨k', _, rfl⟩ := List.mem_map.mp hy
      exact List.cons_lt_cons_iff.mpr (.inr ⟨rfl, List.cons_lt_cons_iff.mpr (.inl h)⟩)
    · refine (ran_asc a).imp fun {p q} h x hx y hy u hu v hv => ?_
      obtain ⟨n, _, rfl⟩ := List.mem_map.mp hx
      obtain ⟨n', _, rfl⟩ := List.mem_map.mp hy
      obtain ⟨k, _, rfl⟩ := List.mem_map.mp hu
      obtain ⟨k', _, rfl⟩ := List.mem_map.mp hv
      exact List.cons_lt_cons_iff.mpr (.inl h)
end Fd
set_option Elab.async false
set_option linter.all false
set_option maxRecDepth 100000
set_option maxHeartbeats 4000000
/-! Dicts whose keys are tuples of tuples: what is in them. -/
namespace Fd
open PySem PySem.Spec PyProof.Rows L2 PySem.W
mutual
/-- a value that is such a key -/
inductive NKey (H : Hp) : V → NestedKey → Prop
  | int (i : Int) : NKey H (.int i) (.num i)
  | tup {a : Addr} {vs : List V} {ks : List NestedKey} : H a = some (.tup vs) → NKeys H vs ks → NKey H (.ref a) (.tup ks)
inductive NKeys (H : Hp) : List V → List NestedKey → Prop
  | nil : NKeys H [] []
  | cons {v : V} {k : NestedKey} {vs : List V} {ks : List NestedKey} : NKey H v k → NKeys H vs ks → NKeys H (v :: vs) (k :: ks)
end
mutual
theorem NKey.is {P : Program} {w : World} {H : Hp} {h : Heap} (ok : HOk P w H h) : ∀ (k : NestedKey) (v : V) (u : Value), NKey H v k → RelV v u → NestedIs h k u
  | .none, _, _, x, _ => by cases x
  | .num i, _, u, x, r => by
    cases x
    obtain ⟨t, rfl⟩ := (show ∃ t, u = Value.int i t from r)
    exact .int i t
  | .text _, _, _, x, _ => by cases x
  | .tup ks, _, u, x, r => by
    cases x with
    | @tup a vs _ e xs =>
      obtain rfl : u = Value.ref a := r
      obtain ⟨_, its, rv, ob, h1, h2, n, h3⟩ := (show ObjOk P w H h a (.tup vs) from ok a _ e)
      exact .tup h1 h2 h3 (by simpa using NKeys.is ok ks vs its xs rv)
theorem NKeys.is {P : Program} {w : World} {H : Hp} {h : Heap} (ok : HOk P w H h) : ∀ (ks : List NestedKey) (vs : List V) (us : List Value), NKeys H vs ks → Vals vs us → NestedAll h ks us
  | [], _, _, x, r => by
    cases x
    cases r
    exact .nil
  | k :: ks, _, _, x, r => by
    cases x with
    | cons x1 x2 =>
      cases r with
      | cons r1 r2 => exact .cons (NKey.is ok k _ _ x1 r1) (NKeys.is ok ks _ _ x2 r2)
end
mutual
theorem NKey.tx {H H' : Hp} (t : Tx H H') : ∀ (k : NestedKey) (v : V), NKey H v k → NKey H' v k
  | .none, _, x => by cases x
  | .num i, _, x => by cases x; exact .int i
  | .text _, _, x => by cases x
  | .tup ks, _, x => by
    cases x with
    | tup e xs => exact .tup (t.tup _ _ e) (NKeys.tx t ks _ xs)
theorem NKeys.tx {H H' : Hp} (t : Tx H H') : ∀ (ks : List NestedKey) (vs : List V), NKeys H vs ks → NKeys H' vs ks
  | [], _, x => by cases x; exact .nil
  | k :: ks, _, x => by
    cases x with
    | cons x1 x2 => exact .cons (NKey.tx t k _ x1) (NKeys.tx t ks _ x2)
end
/-- a tuple of ints as a key; a pair of such -/
def nT (ns : List Int) : NestedKey := .tup (ns.map .num)
def nP (x : List Int × List Int) : NestedKey := .tup [nT x.1, nT x.2]
theorem nkeys_int {H : Hp} : ∀ ns : List Int, NKeys H (ns.map V.int) (ns.map NestedKey.num)
  | [] => .nil
  | n :: ns => .cons (.int n) (nkeys_int ns)
theorem TI.nkey {H : Hp} {v : V} {ns : List Int} (x : TI H v ns) : NKey H v (nT ns) := by
  obtain ⟨a, rfl, h⟩ := x
  exact .tup h (nkeys_int ns)
theorem nkey_pair {H : Hp} {t : Addr} {u v : V} {x : List Int × List Int} (h : H t = some (.tup [u, v])) (h1 : TI H u x.1) (h2 : TI H v x.2) : NKey H (.ref t) (nP x) := .tup h (.cons h1.nkey (.cons h2.nkey .nil))
theorem nT_inj {a b : List Int} (h : nT a = nT b) : a = b := by
  unfold nT at h
  injection h with h
  exact (List.map_inj_right (fun x y e => by injection e)).mp h
theorem nP_inj {x y : List Int × List Int} (h : nP x = nP y) : x = y := by
  unfold nP at h
  injection h with h
  injection h with h1 h
  injection h with h2 _
  exact Prod.ext (nT_inj h1) (nT_inj h2)
theorem depth_nums : ∀ ns : List Int, NestedKey.depthAll (ns.map .num) ≤ 0
  | [] => by simp [NestedKey.depthAll]
  | n :: ns => by
    have := depth_nums ns
    rw [List.map_cons, NestedKey.depthAll]
    simp [NestedKey.depth]; omega
theorem depth_nT (ns : List Int) : (nT ns).depth ≤ 1 := by
  have := depth_nums ns
  unfold nT
  rw [NestedKey.depth]; omega
theorem depth_nP (x : List Int × List Int) : (nP x).depth ≤ 8 := by
  have := depth_nT x.1
  have := depth_nT x.2
  unfold nP
  rw [NestedKey.depth, NestedKey.depthAll, NestedKey.depthAll, NestedKey.depthAll]; omega
/-- the dict's object -/
def DNo (P : Program) (w : World) (d : Addr) (xs : List (NestedKey × Addr × Value)) : HO := .ext fun h => ((d == sysModules) = false ∧ xs.length ≤ sizeLine) ∧
  ∃ o es ep, h.get? d = some o ∧ o.ExactDict ∧ o.data = .dict es ep ∧ es.toList = xs.map (entryOfKey (nestedKind P w)) ∧ (xs.map (·.1)).Nodup
/-- a dict stands at d that has these keys -/
def DNAt (P : Program) (w : World) (H : Hp) (d : Addr) (ks : List NestedKey) : Prop := ∃ xs, H d = some (DNo P w d xs) ∧ xs.map (·.1) = ks ∧ ∀ x ∈ xs, x.1.depth ≤ 8 ∧ NKey H (.ref x.2.1) x.1
section
variable {P : Program} {w : World} {H H' : Hp} {h : Heap} {d : Addr} {ks : List NestedKey}
theorem DNAt.ks_ {S : Addr → Prop} (x : DNAt P w H d ks) (k : Ks S H H') (n : ¬ S d) : DNAt P w H' d ks := by
  obtain ⟨xs, e, e2, f⟩ := x
  exact ⟨xs, k.keep _ _ n e, e2, fun y hy => ⟨(f y hy).1, NKey.tx k.tx _ _ (f y hy).2⟩⟩
theorem DNAt.ke (x : DNAt P w H d ks) (k : Ke H H') : DNAt P w H' d ks := x.ks_ k (fun z => z)
theorem DNo.new {xs : List (NestedKey × Addr × Value)} {o : Obj} {es : Array DictEntry} {ep : Nat} (z : (d == sysModules) = false) (l : xs.length ≤ sizeLine) (h1 : h.get? d = some o) (h2 : o.ExactDict) (h3 : o.data = .dict es ep)
    (h4 : es.toList = xs.map (entryOfKey (nestedKind P w))) (h5 : (xs.map (·.1)).Nodup) : ObjOk P w H' h d (DNo P w d xs) :=
  ⟨⟨⟨z, l⟩, o, es, ep, h1, h2, h3, h4, h5⟩, ⟨o, h1⟩, fun g1 g2 ⟨q, o', es', ep', q1, q2⟩ k => ⟨q, o', es', ep', k _ q1, q2⟩⟩
theorem dn_of {xs : List (NestedKey × Addr × Value)} (ok : HOk P w H h) (e : H d = some (DNo P w d xs)) (f : ∀ x ∈ xs, x.1.depth ≤ 8 ∧ NKey H (.ref x.2.1) x.1) : ((d == sysModules) = false ∧ xs.length ≤ sizeLine) ∧ h.DictOfH (nestedKind P w) d xs := by
  obtain ⟨⟨z, o, es, ep, h1, h2, h3, h4, h5⟩, _, _⟩ := (show ObjOk P w H h d (DNo P w d xs) from ok d _ e)
  exact ⟨z, o, es, ep, h1, h2, h3, h4, fun x hx => ⟨NKey.is ok _ _ _ (f x hx).2 rfl, (f x hx).1⟩, h5⟩
theorem atKey_mem {xs : List (NestedKey × Addr × Value)} {k : NestedKey} : (atKey xs k).isSome = decide (k ∈ xs.map (·.1)) := by
  unfold atKey
  rw [Option.isSome_map]
  by_cases c : k ∈ xs.map (·.1)
  · rw [decide_eq_true c]
    obtain ⟨x, hx, e⟩ := List.mem_map.mp c
    exact List.find?_isSome.mpr ⟨x, hx, decide_eq_true e⟩
  · rw [decide_eq_false c]
    refine Bool.eq_false_iff.mpr fun q => c ?_
    obtain ⟨x, hx, e⟩ := List.find?_isSome.mp q
    exact List.mem_map.mpr ⟨x, hx, of_decide_eq_true e⟩
theorem stored_mem {xs : List (NestedKey × Addr × Value)} {k : NestedKey} {b : Addr} {v : Value} {x : NestedKey × Addr × Value} (hx : x ∈ storedH xs k b v) : (∃ y ∈ xs, x.1 = y.1 ∧ x.2.1 = y.2.1) ∨ x = (k, b, v) := by
  unfold storedH at hx
  by_cases c : (atKey xs k).isSome = true
  · rw [if_pos c] at hx
    obtain ⟨y, hy, e⟩ := List.mem_map.mp hx
    refine .inl ⟨y, hy, ?_⟩
    unfold putAt at e
    by_cases q : y.1 = k
    · rw [if_pos q] at e; rw [← e]; exact ⟨rfl, rfl⟩
    · rw [if_neg q] at e; rw [← e]; exact ⟨rfl, rfl⟩
  · rw [if_neg c] at hx
    rcases List.mem_append.mp hx with z | z
    · exact .inl ⟨x, z, rfl, rfl⟩
    · exact .inr (List.mem_singleton.mp z)
theorem stored_keys {xs : List (NestedKey × Addr × Value)} {k : NestedKey} {b : Addr} {v : Value} : (storedH xs k b v).map (·.1) = addk (xs.map (·.1)) k := by
  unfold storedH addk
  rw [atKey_mem]
  by_cases c : k ∈ xs.map (·.1)
  · rw [decide_eq_true c, if_pos rfl, if_pos c]; exact keys_map_putAt xs k v
  · rw [decide_eq_false c, if_neg Bool.false_ne_true, if_neg c, List.map_append]; rfl
theorem stored_len {xs : List (NestedKey × Addr × Value)} {k : NestedKey} {b : Addr} {v : Value} : (storedH xs k b v).length ≤ xs.length + 1 := by
  unfold storedH
  split
  · rw [List.length_map]; omega
  · rw [List.length_append]; simp
end
section
variable {X : Cx}
/-- y not in d -/
def tDNotInN (P : Program) (w : World) (ty td : TE) : TE := fun σ H Q => ty σ H fun y H1 => td σ H1 fun x H2 => ∃ d ks k b, x = .ref d ∧ DNAt P w H2 d ks ∧ (y = .ref b ∧ NKey H2 (.ref b) k ∧ k.depth ≤ 8) ∧ Q (.bl (!decide (k ∈ ks))) H2
theorem pc_dnotinN {P : Program} {w : World} (hP : X.prog = P) (hw : X.w = w) {i o : Expr} {ty td : TE} (hu : X.A.units + 9 < cLine) (hi : PE X i ty) (ho : PE X o td) : PC X .NotIn i o (tDNotInN P w ty td) := by
  subst hP hw
  refine ⟨fun pins s σ H Q I h => ?_⟩
  refine thn (hi.run pins s σ H _ I h) fun iv s1 ⟨y, H1, I1, ry, q1⟩ => thn (ho.run pins s1 σ H1 _ I1 q1) fun u s2 ⟨x, H2, I2, rx, d, ks, k, b, ex, ⟨xs, e, ek, f⟩, ⟨ey, nk, dp⟩, q2⟩ => ?_
  subst ex
  subst ey
  obtain rfl : u = Value.ref d := rx
  obtain rfl : iv = Value.ref b := ry
  obtain ⟨⟨z, hz⟩, dd⟩ := dn_of I2.hok e f
  refine wpAny_notIn_heap (knd := nestedKind X.prog X.w) (by show X.A.in1.units + 8 < cLine; rw [Around.in1_units]; omega) ⟨NKey.is I2.hok _ _ _ nk rfl, dp⟩ z dd ⟨.bl (!decide (k ∈ ks)), H2, I2.tok _, ?_, q2⟩
  rw [atKey_mem, ek]; rfl
/-- d[y] = v -/
def sDPutN (P : Program) (w : World) (td ty tv : TE) : TS := fun D σ H => tv σ H fun v H1 => td σ H1 fun x H2 => ty σ H2 fun y H3 => ∃ d ks k b, x = .ref d ∧ DNAt P w H3 d ks ∧ (y = .ref b ∧ NKey H3 (.ref b) k ∧ k.depth ≤ 8) ∧ ks.length < sizeLine ∧
  ∀ xs, DNAt P w (upd H3 d (DNo P w d xs)) d (addk ks k) → D.nx σ (upd H3 d (DNo P w d xs))
theorem ps_dputN {P : Program} {w : World} (hP : X.prog = P) (hw : X.w = w) {o i value : Expr} {pos pos' : Pos} {td ty tv : TE} (hu : X.A.units + 9 < cLine) (ho : PE X o td) (hi : PE X i ty) (hv : PE X value tv) (hs : swapsWith value (some (.Subscript o i pos')) pos.line X.env = pure false) :
    PS X (.Assign [.Subscript o i pos'] value pos) (sDPutN P w td ty tv) := by
  subst hP hw
  refine ⟨fun pins s σ H D I h => ?_⟩
  refine wpAny_Assign_Subscript (thn (hv.run pins s σ H _ I h) fun r s1 ⟨v, H1, I1, rv, q1⟩ => thn (ho.run pins s1 σ H1 _ I1 q1) fun u s2 ⟨x, H2, I2, rx, q2⟩ => thn (hi.run pins s2 σ H2 _ I2 q2) fun iv s3 ⟨y, H3, I3, ry, d, ks, k, b, ex, ⟨xs, e, ek, f⟩, ⟨ey, nk, dp⟩, hl, q3⟩ => ?_) hs
  subst ex
  subst ey
  obtain rfl : u = Value.ref d := rx
  obtain rfl : iv = Value.ref b := ry
  obtain ⟨⟨z, hz⟩, dd⟩ := dn_of I3.hok e f
  have lx : xs.length < sizeLine := by rw [← ek, List.length_map] at hl; exact hl
  refine wpAny_setItem_heap (knd := nestedKind X.prog X.w) (hsz := hz) (by show X.A.in1.units + 8 < cLine; rw [Around.in1_units]; omega) ⟨NKey.is I3.hok _ _ _ nk rfl, dp⟩ dd fun h' dd' hss => ?_
  obtain ⟨q, es, ep, g1, g2, g3, g4, _, g5⟩ := dd'
  have lz : (storedH xs k b r).length ≤ sizeLine := by have := stored_len (xs := xs) (k := k) (b := b) (v := r); omega
  have tx : Tx H3 (upd H3 d (DNo X.prog X.w d (storedH xs k b r))) := ⟨fun a ys ea => by rw [upd_ne (ne_of ea e (fun z => nomatch z))]; exact ea⟩
  exact ⟨σ, _, d_write I3 (by rw [e]; exact True.intro) hss ⟨q, g1⟩ (DNo.new z lz g1 g2 g3 g4 g5), q3 _ ⟨_, upd_same, by rw [stored_keys, ek], fun y hy => by
    rcases stored_mem hy with ⟨y', hy', e1, e2⟩ | rfl
    · rw [e1, e2]; exact ⟨(f y' hy').1, NKey.tx tx _ _ (f y' hy').2⟩
    · exact ⟨dp, NKey.tx tx _ _ nk⟩⟩⟩
/-- {y: v} -/
def tDispN (P : Program) (w : World) (tk tv : TE) : TE := fun σ H Q => ∀ p, H p = none → tk σ (upd H p (.dT [])) fun y H1 => tv σ H1 fun z H2 => H2 p = some (.dT []) ∧ ∃ k b, (y = .ref b ∧ NKey H2 (.ref b) k ∧ k.depth ≤ 8) ∧
  ∀ xs, DNAt P w (upd H2 p (DNo P w p xs)) p [k] → Q (.ref p) (upd H2 p (DNo P w p xs))
theorem pe_dispN {P : Program} {w : World} (hP : X.prog = P) (hw : X.w = w) {ke ve : Expr} {pos : Pos} {tk tv : TE} (hu : X.A.units + 9 < cLine) (hk : PE X ke tk) (hv : PE X ve tv) : PE X (.Dict [some ke] [ve] pos) (tDispN P w tk tv) := by
  subst hP hw
  refine ⟨fun pins s σ H Q I q => ?_⟩
  have hn := I.hok.fresh (Nat.le_refl s.heap.objs.size)
  have I1 := I.laid (a := s.heap.objs.size) (o := .dT []) (h' := s.heap.push { cls := .type "dict", data := .dict #[] }) (t' := s.toks) (fun _ _ q => Heap.get?_push_of_some _ q) (Nat.le_refl _) (dt_empty s.heap I.big)
  have hp : PPs X pos [some ke] [ve] [(tk, tv)] := pps_cons hk hv pps_nil
  rw [arm_eval_Dict, zip_pairTrees [some ke] [ve] X.env pos rfl rfl, dictDisplay_pairs _ (by intro z; have := congrArg List.length z; rw [pairTrees_length _ _ _ _ rfl rfl] at this; cases this) (by rw [pairTrees_length _ _ _ _ rfl rfl]; show 1 < 17; decide)]
  refine wpAny_bind (wpAny_standAt (wpAny_bind (wpAny_subDictH (knd := nestedKind X.prog X.w) (Q := fun d s' => wpAny (model X.prog X.w) X.A (pure (Value.ref d)) (EP X pins σ Q) X.xe s') (by show X.A.units + 8 < cLine; omega) (by rw [pairTrees_length _ _ _ _ rfl rfl]; show 1 ≤ 15; decide)
    (thn (hp.run pins _ σ _ (fun ps H2 => match ps with | [(y, z)] => H2 s.heap.objs.size = some (.dT []) ∧ ∃ k b, (y = .ref b ∧ NKey H2 (.ref b) k ∧ k.depth ≤ 8) ∧ ∀ xs, DNAt X.prog X.w (upd H2 s.heap.objs.size (DNo X.prog X.w s.heap.objs.size xs)) s.heap.objs.size [k] → Q (.ref s.heap.objs.size) (upd H2 s.heap.objs.size (DNo X.prog X.w s.heap.objs.size xs)) | _ => False) I1 (q _ hn)) fun ws s2 h2 => ?_))))
  obtain ⟨ps, H2, I2, rel, q2⟩ := h2
  obtain ⟨y, z, rfl, e, k, b, ⟨rfl, nk, dp⟩, q3⟩ : ∃ y z, ps = [(y, z)] ∧ H2 s.heap.objs.size = some (.dT []) ∧ ∃ k b, (y = .ref b ∧ NKey H2 (.ref b) k ∧ k.depth ≤ 8) ∧ ∀ xs, DNAt X.prog X.w (upd H2 s.heap.objs.size (DNo X.prog X.w s.heap.objs.size xs)) s.heap.objs.size [k] → Q (.ref s.heap.objs.size) (upd H2 s.heap.objs.size (DNo X.prog X.w s.heap.objs.size xs)) := by
    match ps, q2 with
    | [(y, z)], q2 => exact ⟨y, z, rfl, q2⟩
  cases rel with
  | @cons _ r _ _ h t =>
    cases t
    obtain ⟨r1, r2⟩ := r
    obtain ⟨h1, h2⟩ := h
    have h1' : r1 = Value.ref b := h1
    subst h1'
    obtain ⟨z0, hd, xs0, r0, o, es, ep, d1, d2, d3, d4, _, _⟩ := dt_of I2.hok e
    cases r0
    refine ⟨[(k, b, r2)], ⟨rfl, rfl, ⟨NKey.is I2.hok _ _ _ nk rfl, dp⟩, trivial⟩, ⟨o, es, ep, d1, d2, d3, by simpa using d4, (fun x hx => by cases hx), List.nodup_nil⟩, fun h' tk dd' hss => wpAny_pure ?_⟩
    have e1 : storedAllH ([] : List (NestedKey × Addr × Value)) [(k, b, r2)] = [(k, b, r2)] := rfl
    rw [e1] at dd'
    obtain ⟨o, es, ep, g1, g2, g3, g4, _, g6⟩ := dd'
    have tx : Tx H2 (upd H2 s.heap.objs.size (DNo X.prog X.w s.heap.objs.size [(k, b, r2)])) := ⟨fun a ys ea => by rw [upd_ne (ne_of ea e (fun z => nomatch z))]; exact ea⟩
    exact ⟨.ref s.heap.objs.size, _, d_write (t' := tk) I2 (by rw [e]; exact True.intro) hss ⟨o, g1⟩ (DNo.new hd (by show 1 ≤ sizeLine; decide) g1 g2 g3 g4 g6), rfl, q3 _ ⟨_, upd_same, rfl, fun y hy => by
      rw [List.mem_singleton.mp hy]; exact ⟨dp, NKey.tx tx _ _ nk⟩⟩⟩
end
end Fd
set_option Elab.async false
set_option linter.all false
set_option maxRecDepth 100000
set_option maxHeartbeats 4000000
namespace Fd
open PySem PySem.Spec PyProof.Rows L2
theorem room9 {k : Nat} {A : Around} (r : Room k A) : A.units + 9 < cLine := by have := r.un; omega
theorem setIn_w {o : Ofc} (wf : Wf o) (w : Wrd) : SetIn o (setW o w) := by
  by_cases c : w = []
  · rw [c]; exact setIn_zero wf
  · rw [← List.dropLast_concat_getLast c, setW_snoc]; exact setIn_goals wf
theorem Lp.small {o1 o2 : Ofc} {St : List (List Int)} {met : List Pr} {lay lat : List (Pr × Wrd)} {D : Pr × Wrd → List Int → Prop} {B : List Pr} {m : Int} {n : Nat} (x : Lp o1 o2 St met lay D lat) (b : BF ([0], [0]) (nxS o1 o2) St (fun _ => False) (PtS o1 o2 m) n (· ∈ met) lay)
    (hB : ∀ w, Wd St w → (setW o1 w, setW o2 w) ∈ B) : (met ++ lat.map (·.1)).length ≤ B.length := len_sub x.nd fun k hk => by
  rcases List.mem_append.mp hk with z | z
  · obtain ⟨w, hw, _, e, _⟩ := (b.mt k).mp z
    rw [wkS] at e
    rw [← e]; exact hB w hw
  · obtain ⟨p, hp, rfl⟩ := List.mem_map.mp z
    obtain ⟨y, hy, st, hst, _, rfl⟩ := x.ok p hp
    obtain ⟨_, wd, e, _⟩ := b.ly y hy
    have h := hB _ (wd_snoc wd hst)
    rw [← wkS, wk_snoc, e] at h
    exact h
/-- an item of the law's layer -/
def R3 : Rl (Pr × Wrd) := fun H v x => ∃ t u1 u2 u3, v = .ref t ∧ H t = some (.tup [u1, u2, u3]) ∧ SS H u1 x.2 ∧ TI H u2 x.1.1 ∧ TI H u3 x.1.2
theorem R3.stb : Stb R3 := fun _ _ _ _ k ⟨t, u1, u2, u3, e, h, a, b, c⟩ => ⟨t, u1, u2, u3, e, k.tup t _ h, SS.stb _ _ _ _ k a, TI.stb _ _ _ _ k b, TI.stb _ _ _ _ k c⟩
theorem mem_nP {g : Pr} {L : List Pr} : nP g ∈ L.map nP ↔ g ∈ L := ⟨fun h => by
  obtain ⟨x, hx, e⟩ := List.mem_map.mp h
  rw [← nP_inj e]; exact hx, fun h => List.mem_map_of_mem h⟩
def sp_lpart (K : PySem.W.Frag) : Sp := fun xs H Q _ => ∃ C1 C2 p1 p2 o1 o2, ∃ B : List Pr, xs = [.ref p1, .ref p2] ∧ (OC K C1 ∧ OfAt C1 H p1 o1 ∧ Wf o1) ∧ (OC K C2 ∧ OfAt C2 H p2 o2 ∧ Wf o2) ∧ o1.sz = o2.sz ∧ ((∀ w, Wd (stepsOf o1) w → (setW o1 w, setW o2 w) ∈ B) ∧ B.length < 500) ∧
  ∀ v r H', Ke H H' → SD o1 o2 (stepsOf o1) (o1.sz.getD 2 0) r → DayO H' v r → (∀ d, r = some d → d.1.length < 500) → Q v H'
section
variable {P : Program} {w : World} {K : PySem.W.Frag} {mg : Str → Option Value} {base : Heap} (T : Txt K mg)
include T
theorem ok_l_least_parting : FnOk P w K mg base CX0 2 T.a_l_least_parting T.d_l_least_parting P_l_least_parting (sp_lpart K) := by
  refine T.F_l_least_parting.ok sc_l_least_parting (fun vs H Q E h => ?_) (fun cdv A outer s H vs Q E hr h => ?_)
  · obtain ⟨C1, C2, p1, p2, o1, o2, B, rfl, _⟩ := h; rfl
  · obtain ⟨C1, C2, p1, p2, o1, o2, B, rfl, ⟨oc1, of1, wf1⟩, ⟨oc2, of2, wf2⟩, esz, ⟨hB, lB⟩, k⟩ := h
    obtain ⟨a, b, c, ez, ha, hb, hc⟩ := wf1.sz
    have est : stepsOf o1 = stepsM a b c := by unfold stepsOf; rw [ez]; rfl
    have ezc : o1.sz.getD 2 0 = c := by rw [ez]; rfl
    have asc : (stepsOf o1).Pairwise (· < ·) := by rw [est]; exact steps_asc a b c
    rw [ezc] at k
    generalize hSt : stepsOf o1 = St at est asc k hB
    obtain ⟨dx, vs, vm, vc, l0, ds, hp, ⟨zs, rfl, hzs⟩, _⟩ := of1.ex
    rw [ez] at hzs
    refine ⟨_, (pss_cons (ps_set (i := 2) sc_l_least_parting.nd rfl (Or.inl rfl) (pe_lst (pa_cons (pe_tup (pa_cons (pe_tup pa_nil) (pa_cons (pe_tup (pa_cons pe_int pa_nil)) (pa_cons (pe_tup (pa_cons pe_int pa_nil)) pa_nil)))) pa_nil)))
  (pss_cons (ps_set (i := 3) sc_l_least_parting.nd rfl (Or.inl rfl) (pe_dispN (P := P) (w := w) rfl rfl (room9 hr) (pe_tup (pa_cons (pe_tup (pa_cons pe_int pa_nil)) (pa_cons (pe_tup (pa_cons pe_int pa_nil)) pa_nil))) pe_bl))
  (pss_cons (ps_for PassesOwn.never rfl (pi_range1 rfl T.n_range (pa_cons pe_int pa_nil)) (pg_name (i := 4) sc_l_least_parting.nd rfl (Or.inl rfl)) (pss_cons (ps_set (i := 5) sc_l_least_parting.nd rfl (Or.inl rfl) (pe_lst pa_nil))
  (pss_cons (ps_for PassesOwn.never rfl (pi_list (pv 2)) (pg_tup rfl (pgs_cons (pg_name (i := 6) sc_l_least_parting.nd rfl (Or.inl rfl)) (pgs_cons (pg_name (i := 7) sc_l_least_parting.nd rfl (Or.inl rfl)) (pgs_cons (pg_name (i := 8) sc_l_least_parting.nd rfl (Or.inl rfl)) pgs_nil)))) (pss_cons (ps_for PassesOwn.never rfl (pi_range1 rfl T.n_range (pa_cons (pe_ix ix_tup (pe_fld (pv 0) rfl) pe_int (fun _ _ => rfl)) pa_nil)) (pg_name (i := 9) sc_l_least_parting.nd rfl (Or.inl rfl)) (pss_one (ps_if (pt_cmpR op_ne (pe_call (ok_l_closes T) (hr.mono (by decide)) rfl T.g_l_closes T.k_l_closes T.b_l_closes .nil pass0 (pa_cons (pv 0) (pa_cons (pv 7) (pa_cons (pv 9) pa_nil)))) (pe_call (ok_l_closes T) (hr.mono (by decide)) rfl T.g_l_closes T.k_l_closes T.b_l_closes .nil pass0 (pa_cons (pv 1) (pa_cons (pv 8) (pa_cons (pv 9) pa_nil)))) (nomark _)) (pss_one (ps_ret (pe_tup (pa_cons (pv 6) (pa_cons (pv 9) pa_nil))))) pss_nil)))
  (pss_one (ps_for PassesOwn.never rfl (pi_list (pe_call (ok_l_all_steps T) (hr.mono (by decide)) rfl T.g_l_all_steps T.k_l_all_steps T.b_l_all_steps .nil pass0 (pa_cons (pe_fld (pv 0) rfl) pa_nil))) (pg_name (i := 10) sc_l_least_parting.nd rfl (Or.inl rfl)) (pss_cons (ps_set (i := 11) sc_l_least_parting.nd rfl (Or.inl rfl) (pe_tup (pa_cons (pe_call (ok_l_behind T) (hr.mono (by decide)) rfl T.g_l_behind T.k_l_behind T.b_l_behind .nil pass0 (pa_cons (pv 0) (pa_cons (pv 7) (pa_cons (pv 10) pa_nil)))) (pa_cons (pe_call (ok_l_behind T) (hr.mono (by decide)) rfl T.g_l_behind T.k_l_behind T.b_l_behind .nil pass0 (pa_cons (pv 1) (pa_cons (pv 8) (pa_cons (pv 10) pa_nil)))) pa_nil))))
  (pss_one (ps_if (pt_cmp (pc_dnotinN (P := P) (w := w) rfl rfl (room9 hr) (pv 11) (pv 3))) (pss_cons (ps_dputN (P := P) (w := w) rfl rfl (room9 hr) (pv 3) (pv 11) pe_bl rfl)
  (pss_one (ps_expr (pe_bm PySem.F.plainAttrs_list PySem.F.slot_list_append PySem.F.type_list_append mt_append (pv 5) (pa_cons (pe_op op_catA (pe_tup (pa_cons (pe_op op_catA (pv 6) (pe_tup (pa_cons (pv 10) pa_nil))) pa_nil)) (pv 11)) pa_nil))))) pss_nil)))))))
  (pss_cons (ps_if (pt_cmpR op_eq (pe_callB call_len (by rfl) T.n_len (by decide +kernel) (pa_cons (pv 5) pa_nil)) pe_int (nomark _)) (pss_one (ps_ret pe_non)) pss_nil)
  (pss_one (ps_set (i := 2) sc_l_least_parting.nd rfl (Or.inl rfl) (pv 5)))))))
  (pss_one (ps_ret pe_non))))), ?_⟩
    -- the first layer
    refine ⟨by decide, fun e0 he0 => ⟨by decide, fun z0 hz0 => ⟨by decide, fun z1 hz1 => ⟨(by show 3 ≤ sizeLine; decide), fun t0 ht0 => ⟨(by show 1 ≤ sizeLine; decide), fun l hl => ?_⟩⟩⟩⟩⟩
    have k0 : Ke H (upd (upd (upd (upd (upd H e0 (.tup [])) z0 (.tup [.int 0])) z1 (.tup [.int 0])) t0 (.tup [.ref e0, .ref z0, .ref z1])) l (.lst [.ref t0])) := ((((Ke.new he0).trans (Ke.new hz0)).trans (Ke.new hz1)).trans (Ke.new ht0)).trans (Ke.new hl)
    have b0 : R3 (upd (upd (upd (upd (upd H e0 (.tup [])) z0 (.tup [.int 0])) z1 (.tup [.int 0])) t0 (.tup [.ref e0, .ref z0, .ref z1])) l (.lst [.ref t0])) (.ref t0) (([0], [0]), []) :=
      ⟨t0, _, _, _, rfl, (Ke.new hl).at upd_same, ⟨e0, [], rfl, ((((Ke.new hz0).trans (Ke.new hz1)).trans (Ke.new ht0)).trans (Ke.new hl)).at upd_same, .nil⟩, ⟨z0, rfl, (((Ke.new hz1).trans (Ke.new ht0)).trans (Ke.new hl)).at upd_same⟩, ⟨z1, rfl, ((Ke.new ht0).trans (Ke.new hl)).at upd_same⟩⟩
    have hl0 : (upd (upd (upd (upd (upd H e0 (.tup [])) z0 (.tup [.int 0])) z1 (.tup [.int 0])) t0 (.tup [.ref e0, .ref z0, .ref z1])) l (.lst [.ref t0])) l = some (.lst [.ref t0]) := upd_same
    generalize upd (upd (upd (upd (upd H e0 (.tup [])) z0 (.tup [.int 0])) z1 (.tup [.int 0])) t0 (.tup [.ref e0, .ref z0, .ref z1])) l (.lst [.ref t0]) = H0 at k0 b0 hl0 ⊢
    -- met
    intro md hmd
    refine ⟨by decide, fun y0 hy0 => ⟨by decide, fun y1 hy1 => ⟨(by show 2 ≤ sizeLine; decide), fun y2 hy2 => ?_⟩⟩⟩
    have km : Ke H0 (upd (upd (upd (upd H0 md (.dT [])) y0 (.tup [.int 0])) y1 (.tup [.int 0])) y2 (.tup [.ref y0, .ref y1])) := (((Ke.new hmd).trans (Ke.new hy0)).trans (Ke.new hy1)).trans (Ke.new hy2)
    have kd : (upd (upd (upd (upd H0 md (.dT [])) y0 (.tup [.int 0])) y1 (.tup [.int 0])) y2 (.tup [.ref y0, .ref y1])) md = some (.dT []) := (((Ke.new hy0).trans (Ke.new hy1)).trans (Ke.new hy2)).at upd_same
    have nk0 : NKey (upd (upd (upd (upd H0 md (.dT [])) y0 (.tup [.int 0])) y1 (.tup [.int 0])) y2 (.tup [.ref y0, .ref y1])) (.ref y2) (nP ([0], [0])) := nkey_pair upd_same ⟨y0, rfl, ((Ke.new hy1).trans (Ke.new hy2)).at upd_same⟩ ⟨y1, rfl, (Ke.new hy2).at upd_same⟩
    generalize upd (upd (upd (upd H0 md (.dT [])) y0 (.tup [.int 0])) y1 (.tup [.int 0])) y2 (.tup [.ref y0, .ref y1]) = Hm at km kd nk0 ⊢
    refine ⟨kd, _, y2, ⟨rfl, nk0, depth_nP _⟩, fun xs dn0 => ?_⟩
    have hmdH : H md = none := k0.free hmd
    have kM : Ke H0 (upd Hm md (DNo P w md xs)) := km.mutNew hmd
    have nlm : l ≠ md := ne_of_none hl0 hmd
    have dn0 : DNAt P w (upd Hm md (DNo P w md xs)) md ([(([0], [0]) : Pr)].map nP) := dn0
    generalize upd Hm md (DNo P w md xs) = H1 at kM dn0 ⊢
    refine ⟨500, rfl, by decide, by decide, for_range (n := 500) (fun m σ H' => (∃ l s4 s5 s6 s7 s8 s9 s10 s11, σ = [some (.ref p1), some (.ref p2), some (.ref l), some (.ref md), s4, s5, s6, s7, s8, s9, s10, s11] ∧ l ≠ md ∧ ∃ met lay ws, H' l = some (.lst ws) ∧ Paired (R3 H') ws lay ∧ DNAt P w H' md (met.map nP) ∧
        BF ([0], [0]) (nxS o1 o2) St (fun _ => False) (PtS o1 o2 c) m (· ∈ met) lay ∧ met.Nodup ∧ (lay.Pairwise fun x y => wlt x.2 y.2 = true) ∧ m + 1 ≤ met.length) ∧ Ke H H')
      ⟨⟨l, _, _, _, _, _, _, _, _, rfl, nlm, [([0], [0])], [(([0], [0]), [])], _, kM.at hl0, .cons (R3.stb _ _ _ _ kM.tx b0) .nil, dn0, BF.start (fun z => z) (fun g => List.mem_singleton), by simp, by simp, by simp⟩, k0.trans kM⟩ ?_ ?_⟩
    · rintro m σ H2 hm ⟨⟨l, s4, s5, s6, s7, s8, s9, s10, s11, rfl, nlm, met, lay, ws, hw, pw, dnm, bf, ndm, asl, lmm⟩, k2⟩
      refine ⟨by decide, fun g hg => ?_⟩
      have kg : Ke H2 (upd H2 g (.lst [])) := Ke.new hg
      have ngl : l ≠ g := ne_of_none hw hg
      have hgH : H g = none := k2.free hg
      have nmg : md ≠ g := by
        obtain ⟨xs', e', _⟩ := dnm
        exact ne_of_none e' hg
      have lenl : ∀ y ∈ lay, y.2.length = m := fun y hy => (bf.ly y hy).1
      have m499 : met.length ≤ 499 := by have := setIn_len bf ndm hB; omega
      refine ⟨_, rfl, l, rfl, ⟨_, SqL.of (kg.at hw)⟩, fo_L (R := R3 H2) (fun dn σ H' => (∃ s6 s7 s8 s9 s10 s11, σ = [some (.ref p1), some (.ref p2), some (.ref l), some (.ref md), some (.int (0 + (m : Int))), some (.ref g), s6, s7, s8, s9, s10, s11]) ∧ (Ke H H' ∧ Ks (fun a => a = g ∨ a = md) H2 H') ∧
          ∃ lat ws', H' g = some (.lst ws') ∧ Paired (R3 H') ws' lat ∧ DNAt P w H' md ((met ++ lat.map (·.1)).map nP) ∧ Lp o1 o2 St met lay (fun y _ => y ∈ dn) lat ∧ ∀ y ∈ dn, ∀ last, ¬ PtS o1 o2 c y.1 last) pw
        ⟨⟨_, _, _, _, _, _, rfl⟩, ⟨k2.trans kg, kg.ks⟩, [], [], upd_same, .nil, by simpa using dnm.ke kg, (Lp.start ndm).mono (fun y st _ _ => by simp), (fun y hy => nomatch hy)⟩ (fun dn σ H' q => q.2.1.2.keep _ _ (fun z => z.elim ngl nlm) hw) ?_ ?_⟩
      · rintro dn x r v σ H3 e ⟨bt, bu, b1, b2, rfl, hbt, hbu, hb1, hb2⟩ ⟨⟨s6, s7, s8, s9, s10, s11, rfl⟩, ⟨k3, k23⟩, lat, ws3, hg3, pw3, dn3, lp3, np3⟩
        have tx23 := k23.tx
        have hxl : x ∈ lay := by rw [e]; simp
        obtain ⟨lx, wdx, ex, _⟩ := bf.ly x hxl
        have exs : x.1 = (setW o1 x.2, setW o2 x.2) := by rw [← ex, wkS]
        have si1 : SetIn o1 x.1.1 := by rw [exs]; exact setIn_w wf1 _
        have si2 : SetIn o2 x.1.2 := by rw [exs]; exact setIn_w wf2 _
        refine ⟨bt, _, rfl, SqT.of (tx23.tup _ _ hbt), rfl, _, _, rfl, _, _, rfl, _, _, rfl, rfl, ?_⟩
        have hbu3 := SS.stb _ _ _ _ tx23 hbu
        have hb13 := TI.stb _ _ _ _ tx23 hb1
        have hb23 := TI.stb _ _ _ _ tx23 hb2
        -- whether it parts
        refine ⟨_, rfl, p1, C1, dx, _, _, rfl, k3.at hp, oc1.c, oc1.n1, offF_s _ _ _ _, zs, _, 2, _, rfl, rfl, SqT.of (k3.at hzs), rfl, c, rfl, by omega, by omega, for_range (fun q σ H' => (∃ s9 s10 s11, σ = [some (.ref p1), some (.ref p2), some (.ref l), some (.ref md), some (.int (0 + (m : Int))), some (.ref g), some bu, some b1, some b2, s9, s10, s11]) ∧ Ke H3 H' ∧ ∀ kq : Nat, kq < q → ¬ PtS o1 o2 c x.1 (kq : Int))
          ⟨⟨_, _, _, rfl⟩, .refl, fun kq h => by omega⟩ ?_ ?_⟩
        · rintro q σ H4 hq ⟨⟨s9, s10, s11, rfl⟩, k34, npq⟩
          have eq0 : (0 : Int) + (q : Int) = (q : Int) := Int.zero_add _
          refine ⟨_, rfl, _, rfl, _, rfl, C1, p1, o1, b1, x.1.1, _, rfl, oc1, (of1.ke k3).ke k34, wf1, TI.stb _ _ _ _ k34.tx hb13, si1.1, si1.2, fun H5 k45 => ?_⟩
          have k35 := k34.trans k45
          refine ⟨_, rfl, _, rfl, _, rfl, C2, p2, o2, b2, x.1.2, _, rfl, oc2, (of2.ke k3).ke k35, wf2, TI.stb _ _ _ _ k35.tx hb23, si2.1, si2.2, fun H6 k56 => ⟨rfl, _, rfl, ?_⟩⟩
          have k36 := k35.trans k56
          rw [eq0]
          by_cases cc : closesS o1 x.1.1 (q : Int) = closesS o2 x.1.2 (q : Int)
          · refine ifNT (by rw [cc]) ⟨⟨_, _, _, rfl⟩, k36, fun kq h => ?_⟩
            by_cases d : kq = q
            · rw [d]; exact fun z => z.2 cc
            · exact npq kq (by omega)
          · refine ifNF (fun z => cc (by injection z)) ⟨_, rfl, _, rfl, (by show 2 ≤ sizeLine; decide), fun t ht => ?_⟩
            have hp' : PtS o1 o2 c x.1 (q : Int) := ⟨⟨by omega, by omega⟩, cc⟩
            obtain ⟨c1, c2, c3, c4⟩ := bf.end_some (fun _ _ z => z.elim) hxl hp' fun y hy last hpy => by
              rw [e] at hy
              rcases List.mem_append.mp hy with z | z
              · exact absurd hpy (np3 y z last)
              · unfold dlt
                rcases List.mem_cons.mp z with z | z
                · rw [z]
                  dsimp only
                  rw [if_pos rfl]
                  refine decide_eq_false fun lt => ?_
                  rw [z] at hpy
                  refine npq last.toNat (by have := hpy.1.1; omega) ?_
                  have : ((last.toNat : Nat) : Int) = last := by have := hpy.1.1; omega
                  rw [this]; exact hpy
                · have ordr : wlt x.2 y.2 = true := by
                    rw [e, List.pairwise_append] at asl
                    exact (List.pairwise_cons.mp asl.2.1).1 y z
                  dsimp only
                  rw [if_neg (fun z => by rw [z, wlt_irr] at ordr; cases ordr)]
                  exact wlt_asym ordr
            refine k _ (some (x.2, (q : Int))) _ ((k3.trans k36).trans (Ke.new ht)) ⟨c1, ptS_iff.mp c2, fun w hw hl last z => c3 w hw hl last (ptS_iff.mpr z), fun w last hw hl z => c4 w last hw hl (ptS_iff.mpr z)⟩ ⟨t, bu, rfl, upd_same, SS.stb _ _ _ _ (k36.trans (Ke.new ht)).tx hbu3⟩ (fun d ed => by have := Option.some.inj ed; rw [← this]; show x.2.length < 500; omega)
        · rintro σ H4 ⟨⟨s9, s10, s11, rfl⟩, k34, npq⟩
          have npx : ∀ last, ¬ PtS o1 o2 c x.1 last := fun last z => by
            refine npq last.toNat (by have := z.1; omega) ?_
            have : ((last.toNat : Nat) : Int) = last := by have := z.1.1; omega
            rw [this]; exact z
          have k4 := k3.trans k34
          have k24 := k23.trans k34.ks
          -- the steps
          refine ⟨_, rfl, p1, C1, dx, _, _, rfl, k4.at hp, oc1.c, oc1.n1, offF_s _ _ _ _, _, a, b, c, rfl, ⟨zs, rfl, k4.at hzs⟩, ha, hb, hc, fun sl sws H5 hsl k45 hsl5 psl => ?_⟩
          rw [← est] at psl
          have k5 := k4.trans k45
          have k25 := k24.trans k45.ks
          have hbu5 := SS.stb _ _ _ _ (k34.trans k45).tx hbu3
          have hb15 := TI.stb _ _ _ _ (k34.trans k45).tx hb13
          have hb25 := TI.stb _ _ _ _ (k34.trans k45).tx hb23
          have hg4 := k34.at hg3
          have dn4 := dn3.ke k34
          have nsg : sl ≠ g := fun z => by rw [z, hg4] at hsl; cases hsl
          have nsm : sl ≠ md := fun z => by
            obtain ⟨xs', e', _⟩ := dn4
            rw [z, e'] at hsl; cases hsl
          refine ⟨sl, rfl, ⟨_, SqL.of hsl5⟩, fo_L (R := TI H5) (fun dn' σ H' => (∃ s9 s10 s11, σ = [some (.ref p1), some (.ref p2), some (.ref l), some (.ref md), some (.int (0 + (m : Int))), some (.ref g), some bu, some b1, some b2, s9, s10, s11]) ∧ (Ke H H' ∧ Ks (fun a => a = g ∨ a = md) H2 H' ∧ Ks (fun a => a = g ∨ a = md) H5 H') ∧
              ∃ lat ws', H' g = some (.lst ws') ∧ Paired (R3 H') ws' lat ∧ DNAt P w H' md ((met ++ lat.map (·.1)).map nP) ∧ Lp o1 o2 St met lay (fun y st => y ∈ dn ∨ (y = x ∧ st ∈ dn')) lat) psl
            ⟨⟨_, _, _, rfl⟩, ⟨k5, k25, .refl⟩, lat, ws3, k45.at hg4, pimp (fun v x r => R3.stb _ _ v x (k34.trans k45).tx r) pw3, dn4.ke k45, lp3.mono (fun y st _ _ => by simp)⟩ (fun dn' σ H' q => q.2.1.2.2.keep _ _ (fun z => z.elim nsg nsm) hsl5) ?_ ?_⟩
          · rintro dn' st r' v σ H6 e' ⟨sa, rfl, hsa⟩ ⟨⟨s9, s10, s11, rfl⟩, ⟨k6, k26, k56⟩, lat6, ws6, hg6, pw6, dn6, lp6⟩
            have hst : st ∈ St := by rw [e']; simp
            have hsa6 := k56.tup _ _ hsa
            have hbu6 := SS.stb _ _ _ _ k56.tx hbu5
            refine ⟨_, rfl, _, rfl, _, rfl, C1, p1, o1, b1, _, x.1.1, st, rfl, oc1, of1.ke k6, wf1, TI.stb _ _ _ _ k56.tx hb15, ⟨sa, rfl, hsa6⟩, si1.1, fun g1v H7 k67 hg1 => ?_⟩
            refine ⟨_, rfl, _, rfl, _, rfl, C2, p2, o2, b2, _, x.1.2, st, rfl, oc2, of2.ke (k6.trans k67), wf2, TI.stb _ _ _ _ (k56.tx.trans k67.tx) hb25, ⟨sa, rfl, k67.at hsa6⟩, si2.1, fun g2v H8 k78 hg2 => ⟨(by show 2 ≤ sizeLine; decide), fun gt hgt => ?_⟩⟩
            have k8 : Ke H8 (upd H8 gt (.tup [g1v, g2v])) := Ke.new hgt
            have hgt9 : (upd H8 gt (.tup [g1v, g2v])) gt = some (.tup [g1v, g2v]) := upd_same
            have hg19 := TI.stb _ _ _ _ (k78.trans k8).tx hg1
            have hg29 := TI.stb _ _ _ _ k8.tx hg2
            have k69 : Ke H6 (upd H8 gt (.tup [g1v, g2v])) := (k67.trans k78).trans k8
            generalize upd H8 gt (.tup [g1v, g2v]) = H9 at hgt9 hg19 hg29 k69 ⊢
            have eg : nxS o1 o2 x.1 st = (goalsM o1 x.1.1 st, goalsM o2 x.1.2 st) := rfl
            have nk9 : NKey H9 (.ref gt) (nP (nxS o1 o2 x.1 st)) := nkey_pair hgt9 hg19 hg29
            have ah := lp6.ahead e e' asl asc lenl
            refine ⟨_, rfl, _, rfl, md, _, _, gt, rfl, dn6.ke k69, ⟨rfl, nk9, depth_nP _⟩, _, rfl, ?_⟩
            have eD : ∀ y st', y ∈ lay → st' ∈ St → (((y ∈ dn ∨ (y = x ∧ st' ∈ dn')) ∨ (y = x ∧ st' = st)) ↔ (y ∈ dn ∨ (y = x ∧ st' ∈ dn' ++ [st]))) := fun y st' _ _ => by
              rw [List.mem_append, List.mem_singleton]
              constructor
              · rintro ((z | ⟨z1, z2⟩) | ⟨z1, z2⟩)
                · exact .inl z
                · exact .inr ⟨z1, .inl z2⟩
                · exact .inr ⟨z1, .inr z2⟩
              · rintro (z | ⟨z1, z2 | z2⟩)
                · exact .inl (.inl z)
                · exact .inl (.inr ⟨z1, z2⟩)
                · exact .inr ⟨z1, z2⟩
            by_cases cm : nxS o1 o2 x.1 st ∈ met ++ lat6.map (·.1)
            · exact ifNT (mem_nP.mpr cm) ⟨⟨_, _, _, rfl⟩, ⟨k6.trans k69, k26.trans k69.ks, k56.trans k69.ks⟩, lat6, ws6, k69.at hg6, pimp (fun v x r => R3.stb _ _ v x k69.tx r) pw6, dn6.ke k69, (lp6.skip cm ah).mono eD⟩
            · have lp7 := (lp6.push hxl hst cm ah).mono eD
              have sm := lp6.small bf hB
              refine ifNF (fun z => cm (mem_nP.mp z)) ⟨_, rfl, _, rfl, md, _, _, gt, rfl, dn6.ke k69, ⟨rfl, nk9, depth_nP _⟩, by rw [List.length_map, sizeLine_eq]; omega, fun xs7 dn7 => ?_⟩
              have hm9 : ∃ o9, H9 md = some o9 ∧ ∀ ys, o9 ≠ .tup ys := by
                obtain ⟨xs', e9, _⟩ := dn6.ke k69
                exact ⟨_, e9, fun _ z => nomatch z⟩
              obtain ⟨o9, hm9, no9⟩ := hm9
              have ngm : g ≠ md := fun z => nmg z.symm
              have kd : Ks (fun a => a = g ∨ a = md) H9 (upd H9 md (DNo P w md xs7)) := Ks.mut .refl (.inr rfl) (fun ys z => by rw [hm9] at z; exact no9 ys (Option.some.inj z))
              have kdH : Ke H (upd H9 md (DNo P w md xs7)) := (k6.trans k69).mutNew hmdH
              have hg10 : (upd H9 md (DNo P w md xs7)) g = some (.lst ws6) := by rw [upd_ne ngm]; exact k69.at hg6
              have dn8 : DNAt P w (upd H9 md (DNo P w md xs7)) md ((met ++ (lat6 ++ [(nxS o1 o2 x.1 st, x.2 ++ [st])]).map (·.1)).map nP) := by
                have el : met ++ (lat6 ++ [(nxS o1 o2 x.1 st, x.2 ++ [st])]).map (·.1) = (met ++ lat6.map (·.1)) ++ [nxS o1 o2 x.1 st] := by simp
                rw [el, List.map_append]
                have := dn7
                unfold addk at this
                rw [if_neg (fun z => cm (mem_nP.mp z))] at this
                exact this
              have tx9 := k69.tx.trans kd.tx
              have hbu10 := SS.stb _ _ _ _ tx9 hbu6
              have hsa10 := tx9.tup _ _ hsa6
              have hgt10 := kd.tup _ _ hgt9
              have hg110 := TI.stb _ _ _ _ kd.tx hg19
              have hg210 := TI.stb _ _ _ _ kd.tx hg29
              have pw10 : Paired (R3 (upd H9 md (DNo P w md xs7))) ws6 lat6 := pimp (fun v x r => R3.stb _ _ v x tx9 r) pw6
              have k6d : Ks (fun a => a = g ∨ a = md) H6 (upd H9 md (DNo P w md xs7)) := k69.ks.trans kd
              generalize upd H9 md (DNo P w md xs7) = H10 at kdH hg10 dn8 hbu10 hsa10 hgt10 hg110 hg210 pw10 k6d ⊢
              have lw6 : ws6.length ≤ 499 := by
                rw [plen pw6]
                have : (met ++ lat6.map (·.1)).length = met.length + lat6.length := by rw [List.length_append, List.length_map]
                omega
              refine ⟨_, rfl, .inl ⟨rfl, _, SqL.of hg10⟩, _, rfl, _, rfl, (by show 1 ≤ sizeLine; decide), catS hbu10 ⟨sa, rfl, hsa10⟩ (by omega) fun lv H11 k11 hlv => ⟨(by show 1 ≤ sizeLine; decide), fun q hq => ?_⟩⟩
              have kq : Ke H11 (upd H11 q (.tup [lv])) := Ke.new hq
              refine ⟨_, rfl, q, gt, _, _, rfl, rfl, SqT.of upd_same, SqT.of ((k11.trans kq).at hgt10), (by show 3 ≤ sizeLine; decide), (fun z => nomatch z), (fun _ z => nomatch z), fun _ _ t ht => ?_⟩
              have kt : Ke (upd H11 q (.tup [lv])) (upd (upd H11 q (.tup [lv])) t (.tup ([lv] ++ [g1v, g2v]))) := Ke.new ht
              have k1012 : Ke H10 (upd (upd H11 q (.tup [lv])) t (.tup ([lv] ++ [g1v, g2v]))) := (k11.trans kq).trans kt
              have hg12 := k1012.at hg10
              have hlv12 := SS.stb _ _ _ _ (kq.trans kt).tx hlv
              have ht12 : (upd (upd H11 q (.tup [lv])) t (.tup ([lv] ++ [g1v, g2v]))) t = some (.tup [lv, g1v, g2v]) := upd_same
              show ∃ l' xs' y', _
              generalize upd (upd H11 q (.tup [lv])) t (.tup ([lv] ++ [g1v, g2v])) = H12 at k1012 hg12 hlv12 ht12 ⊢
              refine ⟨g, ws6, _, rfl, rfl, hg12, by rw [sizeLine_eq]; omega, ?_⟩
              have ntg : t ≠ g := ne_of ht12 hg12 (fun z => nomatch z)
              have tx13 := snoc_tx (ws := ws6 ++ [.ref t]) k1012.tx hg10
              have tx1213 : Tx H12 (upd H12 g (.lst (ws6 ++ [.ref t]))) := put_tx hg12 (fun _ z => nomatch z)
              have k1013 : Ks (fun a => a = g ∨ a = md) H10 (upd H12 g (.lst (ws6 ++ [.ref t]))) := k1012.ks.mut (.inl rfl) (fun ys z => by rw [hg12] at z; cases z)
              refine ⟨⟨_, _, _, rfl⟩, ⟨(kdH.trans k1012).mutNew hgH, k26.trans (k6d.trans k1013), k56.trans (k6d.trans k1013)⟩, _, _, upd_same, ?_, ?_, lp7⟩
              · refine papp (pimp (fun v x r => R3.stb _ _ v x tx13 r) pw10) (.cons ⟨t, _, _, _, rfl, by rw [upd_ne ntg]; exact ht12, SS.stb _ _ _ _ tx1213 hlv12, TI.stb _ _ _ _ tx13 hg110, TI.stb _ _ _ _ tx13 hg210⟩ .nil)
              · exact (dn8.ke k1012).ks_ (S := fun a => a = g) (Ks.mut .refl rfl (fun ys z => by rw [hg12] at z; cases z)) nmg
          · rintro σ H6 ⟨⟨s9, s10, s11, rfl⟩, ⟨k6, k26, k56⟩, lat6, ws6, hg6, pw6, dn6, lp6⟩
            refine ⟨⟨_, _, _, _, _, _, rfl⟩, ⟨k6, k26⟩, lat6, ws6, hg6, pw6, dn6, lp6.mono (fun y st hy hst => ?_), fun y hy last => ?_⟩
            · rw [List.mem_append, List.mem_singleton]
              exact ⟨fun z => z.imp id (·.1), fun z => z.imp id fun q => ⟨q, hst⟩⟩
            · rcases List.mem_append.mp hy with z | z
              · exact np3 y z last
              · rw [List.mem_singleton.mp z]; exact npx last
      · rintro σ H3 ⟨⟨s6, s7, s8, s9, s10, s11, rfl⟩, ⟨k3, k23⟩, lat, ws3, hg3, pw3, dn3, lp3, np3⟩
        have bf' := lp3.bf bf np3
        have lw := plen pw3
        refine ⟨_, rfl, .ref g, ws3.length, rfl, .inl ⟨_, SqL.of hg3, rfl⟩, rfl, _, rfl, ?_⟩
        by_cases c0 : lat = []
        · refine iteT' (decide_eq_true (by rw [lw, c0]; rfl)) ?_
          rw [c0] at bf'
          exact k _ none _ k3 (fun w hw last z => bf'.end_none (fun _ _ _ z => z) (fun _ _ z => z.elim) w hw last (ptS_iff.mpr z)) rfl (fun d ed => by cases ed)
        · have lp := List.length_pos_iff.mpr c0
          refine iteF' (fun z => ?_) ⟨_, rfl, ⟨g, _, _, _, _, _, _, _, _, rfl, fun z => nmg z.symm, _, lat, ws3, hg3, pw3, dn3, bf', lp3.nd, lp3.as, ?_⟩, k3⟩
          · have z' := of_decide_eq_true z
            injection z' with z'
            omega
          · rw [List.length_append, List.length_map]; omega
    · rintro σ H2 ⟨⟨l, s4, s5, s6, s7, s8, s9, s10, s11, rfl, nlm, met, lay, ws, hw, pw, dnm, bf, ndm, asl, lmm⟩, k2⟩
      have := setIn_len bf ndm hB
      omega
end
end Fd
set_option Elab.async false
set_option linter.all false
set_option maxRecDepth 100000
set_option maxHeartbeats 4000000
/-! Offices near to one another, and how many sets they have, in plain lists. -/
namespace Fd
abbrev Gd (o : Ofc) : Prop := Good o.sz o.mv o.cl
theorem good_wf {o : Ofc} (g : Gd o) : Wf o where
  sz := by
    obtain ⟨h1, h2⟩ := g.s
    match e : o.sz, h1 with
    | [a, b, c], _ =>
      rw [e] at h2
      have := h2 a (by simp)
      have := h2 b (by simp)
      have := h2 c (by simp)
      exact ⟨a, b, c, rfl, by omega, by omega, by omega⟩
  n1 := g.m.1
  n2 := by have := g.m.2.1; omega
  cl := by have := g.c.1; omega
  mv := fun r hr => ⟨(g.m.2.2 r hr).2.2, (g.m.2.2 r hr).1⟩
  ck := fun r hr => ⟨(g.c.2 r hr).2.2, fun k hk => by
    obtain ⟨a, b, c, e, h1, h2⟩ := (g.c.2 r hr).1 k hk
    have := g.s.2 c (by rw [e]; simp)
    omega⟩
theorem good_64 {o : Ofc} (g : Gd o) : (stepsOf o).length ≤ 64 := by
  obtain ⟨a, b, c, e, _⟩ := (good_wf g).sz
  have h := g.s.2
  rw [e] at h
  have ha := h a (by simp)
  have hb := h b (by simp)
  have hc := h c (by simp)
  have es : stepsOf o = stepsM a b c := by unfold stepsOf; rw [e]; rfl
  rw [es]
  have lr : ∀ x : Int, x ≤ 4 → (ran x).length ≤ 4 := fun x h => by unfold ran; rw [List.length_map, List.length_range]; omega
  unfold stepsM
  have h1 := flat_len (f := fun x => (ran c).map fun k => x ++ [k]) (n := 4) (fun x => by rw [List.length_map]; exact lr c hc.2) ((ran a).flatMap fun s => (ran b).map fun n => [s, n])
  have h2 := flat_len (f := fun s => (ran b).map fun n => [s, n]) (n := 4) (fun x => by rw [List.length_map]; exact lr b hb.2) (ran a)
  have h3 := lr a ha.2
  omega
/-! ### few sets -/
theorem setW_ok {o : Ofc} (w : Wf o) : ∀ v : Wrd, (setW o v).Pairwise (· < ·) ∧ ∀ x ∈ setW o v, 0 ≤ x ∧ x < o.mv.length := fun v => by
  by_cases c : v = []
  · rw [c]
    exact ⟨by simp [setW], fun x hx => by
      have : x ∈ [(0 : Int)] := hx
      rw [List.mem_singleton.mp this]; have := w.n1; omega⟩
  · rw [← List.dropLast_concat_getLast c, setW_snoc]
    refine ⟨sorted_usort _, fun x hx => ?_⟩
    have hn : goalsM o (setW o v.dropLast) (v.getLast c) ≠ [] := fun z => by rw [z] at hx; cases hx
    exact (goals_ok w.goals hn).2.2 x hx
theorem few_sub {o : Ofc} (w : Wf o) (v : Wrd) : setW o v ∈ subsOf (ran o.mv.length) := by
  obtain ⟨h1, h2⟩ := setW_ok w v
  exact mem_subsOf (ran_sorted _) h1 fun x hx => mem_ran.mpr (h2 x hx)
def Det (o : Ofc) : Prop := ∀ r ∈ o.mv, r.Pairwise fun m m' => m.take 3 ≠ m'.take 3
theorem goalsIn_one : ∀ {r : List (List Int)} {st : List Int}, (r.Pairwise fun m m' => m.take 3 ≠ m'.take 3) → (goalsIn r st).length ≤ 1
  | [], _, _ => by simp [goalsIn]
  | m :: r, st, h => by
    obtain ⟨h1, h2⟩ := List.pairwise_cons.mp h
    have ih := goalsIn_one (st := st) h2
    unfold goalsIn at ih ⊢
    rw [List.filterMap_cons]
    by_cases c : m.take 3 = st
    · rw [if_pos c]
      have e : List.filterMap (fun m => if m.take 3 = st then m[3]? else none) r = [] := by
        rw [List.filterMap_eq_nil_iff]
        intro m' hm'
        rw [if_neg (fun z => h1 m' hm' (c.trans z.symm))]
      rw [e]
      cases m[3]? <;> simp
    · rw [if_neg c]; exact ih
theorem few_det {o : Ofc} (w : Wf o) (d : Det o) (v : Wrd) : setW o v ∈ [] :: (ran o.mv.length).map fun x => [x] := by
  have key : ∀ n : Nat, ∀ v : Wrd, v.length = n → setW o v ∈ [] :: (ran o.mv.length).map fun x => [x] := by
    intro n
    induction n with
    | zero =>
      intro v hv
      rw [List.length_eq_zero_iff.mp hv]
      exact List.mem_cons_of_mem _ (List.mem_map.mpr ⟨0, mem_ran.mpr ⟨Int.le_refl _, by have := w.n1; omega⟩, rfl⟩)
    | succ n ih =>
      intro v hv
      obtain ⟨u, st, rfl, hu⟩ := split_last hv
      have hs := setW_ok w (u ++ [st])
      rw [setW_snoc] at hs ⊢
      rcases List.mem_cons.mp (ih u hu) with e | e
      · rw [e, goals_nil]; simp
      · obtain ⟨x, hx, e⟩ := List.mem_map.mp e
        have e' : setW o u = [x] := e.symm
        rw [e'] at hs ⊢
        have hx' := mem_ran.mp hx
        obtain ⟨row, hrow⟩ : ∃ row, o.mv[x.toNat]? = some row := ⟨_, List.getElem?_eq_getElem (by omega)⟩
        have one := goalsIn_one (st := st) (d row (List.mem_of_getElem? hrow))
        have eg : goalsM o [x] st = usort (goalsIn row st) := by
          unfold goalsM
          rw [List.flatMap_cons, List.flatMap_nil, List.append_nil, at0_of hrow]; rfl
        rw [eg] at hs ⊢
        match eq : goalsIn row st, one with
        | [], _ => simp [usort]
        | [g], _ =>
          rw [eq] at hs
          have eu : usort [g] = [g] := rfl
          rw [eu] at hs ⊢
          exact List.mem_cons_of_mem _ (List.mem_map.mpr ⟨g, mem_ran.mpr (hs.2 g (by simp)), rfl⟩)
  exact key v.length v rfl
theorem reach_word {o : Ofc} {s : List Int} (h : Reach o s) : ∃ w, Wd (stepsOf o) w ∧ setW o w = s := by
  induction h with
  | z => exact ⟨[], (fun st h => nomatch h), rfl⟩
  | @s s st _ h2 _ ih =>
    obtain ⟨w, hw, e⟩ := ih
    exact ⟨w ++ [st], wd_snoc hw h2, by rw [setW_snoc, e]⟩
theorem few_over {o : Ofc} {L : List (List Int)} (h : ∀ w, setW o w ∈ L) (hL : L.length ≤ 60) : ¬ Over o := few_not (fun s hs => by
  obtain ⟨w, _, e⟩ := reach_word hs
  rw [← e]; exact h w) hL
/-- what the law asks of two offices -/
structure Two2 (o1 o2 : Ofc) : Prop where
  g1 : Gd o1
  g2 : Gd o2
  es : o1.sz = o2.sz
  n1 : ¬ Over o1
  n2 : ¬ Over o2
  few : ∃ B : List Pr, (∀ w, Wd (stepsOf o1) w → (setW o1 w, setW o2 w) ∈ B) ∧ B.length < 500
def prodL (L1 L2 : List (List Int)) : List Pr := L1.flatMap fun a => L2.map fun b => (a, b)
theorem prodL_len (L1 L2 : List (List Int)) : (prodL L1 L2).length = L1.length * L2.length := by
  unfold prodL
  induction L1 with
  | nil => simp
  | cons a L ih => rw [List.flatMap_cons, List.length_append, ih, List.length_map, List.length_cons, Nat.succ_mul]; omega
theorem mem_prodL {L1 L2 : List (List Int)} {a b : List Int} (h1 : a ∈ L1) (h2 : b ∈ L2) : (a, b) ∈ prodL L1 L2 := List.mem_flatMap.mpr ⟨a, h1, List.mem_map.mpr ⟨b, h2, rfl⟩⟩
theorem lran (n : Nat) : (ran n).length = n := by unfold ran; simp
theorem two_small {o1 o2 : Ofc} (g1 : Gd o1) (g2 : Gd o2) (es : o1.sz = o2.sz) (h1 : o1.mv.length ≤ 4) (h2 : o2.mv.length ≤ 4) : Two2 o1 o2 where
  g1 := g1
  g2 := g2
  es := es
  n1 := small_not (good_wf g1) (by omega)
  n2 := small_not (good_wf g2) (by omega)
  few := ⟨_, fun w _ => mem_prodL (few_sub (good_wf g1) w) (few_sub (good_wf g2) w), by
    rw [prodL_len, len_subsOf, len_subsOf, lran, lran]
    have q1 := Nat.pow_le_pow_right (show 0 < 2 by decide) h1
    have q2 := Nat.pow_le_pow_right (show 0 < 2 by decide) h2
    have := Nat.mul_le_mul q1 q2
    exact Nat.lt_of_le_of_lt this (by decide)⟩
theorem two_det {o1 o2 : Ofc} (g1 : Gd o1) (g2 : Gd o2) (es : o1.sz = o2.sz) (d1 : Det o1) (d2 : Det o2) : Two2 o1 o2 where
  g1 := g1
  g2 := g2
  es := es
  n1 := few_over (few_det (good_wf g1) d1) (by rw [List.length_cons, List.length_map, lran]; have := g1.m.2.1; omega)
  n2 := few_over (few_det (good_wf g2) d2) (by rw [List.length_cons, List.length_map, lran]; have := g2.m.2.1; omega)
  few := ⟨_, fun w _ => mem_prodL (few_det (good_wf g1) d1 w) (few_det (good_wf g2) d2 w), by
    rw [prodL_len, List.length_cons, List.length_cons, List.length_map, List.length_map, lran, lran]
    have q1 := g1.m.2.1
    have q2 := g2.m.2.1
    have := Nat.mul_le_mul (show o1.mv.length + 1 ≤ 21 by omega) (show o2.mv.length + 1 ≤ 21 by omega)
    exact Nat.lt_of_le_of_lt this (by decide)⟩
/-! ### changes -/
theorem MoveOk.mono {sz : List Int} {n m : Int} {x : List Int} (h : MoveOk sz n x) (hn : n ≤ m) : MoveOk sz m x := by
  obtain ⟨a, b, c, s, t, k, g, e, e2, h1, h2, h3, h4, h5⟩ := h
  exact ⟨a, b, c, s, t, k, g, e, e2, h1, h2, h3, h4, by omega⟩
theorem RowOk.mono {sz : List Int} {n m : Int} {r : List (List Int)} (h : RowOk sz n r) (hn : n ≤ m) : RowOk sz m r := ⟨fun x hx => (h.1 x hx).mono hn, h.2⟩
theorem mem_set_or {α : Type} {l : List α} {i : Nat} {a b : α} (h : b ∈ l.set i a) : b ∈ l ∨ b = a := by
  rcases List.mem_or_eq_of_mem_set h with z | z
  · exact .inl z
  · exact .inr z
theorem moves_set {sz : List Int} {mv : List (List (List Int))} {i : Nat} {r : List (List Int)} (h : MovesOk sz mv) (hr : RowOk sz mv.length r) : MovesOk sz (mv.set i r) := by
  obtain ⟨h1, h2, h3⟩ := h
  rw [MovesOk, List.length_set]
  exact ⟨h1, h2, fun x hx => (mem_set_or hx).elim (h3 x) fun e => by rw [e]; exact hr⟩
theorem clos_set {sz : List Int} {many : Int} {cl : List (List Int)} {i : Nat} {r : List Int} (h : ClosOk sz many cl) (hr : (∀ k ∈ r, ∃ a b c, sz = [a, b, c] ∧ 0 ≤ k ∧ k ≤ c - 1) ∧ r.Pairwise (· < ·) ∧ r.length < 1000000) : ClosOk sz many (cl.set i r) := by
  refine ⟨by rw [List.length_set]; exact h.1, fun x hx => (mem_set_or hx).elim (h.2 x) fun e => by rw [e]; exact hr⟩
theorem det_set {sz : List Int} {mv : List (List (List Int))} {cl : List (List Int)} {i : Nat} {r : List (List Int)} (h : Det ⟨sz, mv, cl⟩) (hr : r.Pairwise fun m m' => m.take 3 ≠ m'.take 3) {cl' : List (List Int)} : Det ⟨sz, mv.set i r, cl'⟩ := fun x hx =>
  (mem_set_or (show x ∈ mv.set i r from hx)).elim (h x) fun e => by rw [e]; exact hr
/-- a move less -/
theorem row_less {sz : List Int} {n : Int} {r : List (List Int)} (h : RowOk sz n r) (i : Nat) : RowOk sz n (r.take i ++ r.drop (i + 1)) := by
  have sub : (r.take i ++ r.drop (i + 1)).Sublist r := by
    have e : r = r.take i ++ r.drop i := (List.take_append_drop i r).symm
    have h2 : (r.drop (i + 1)).Sublist (r.drop i) := by
      rw [← List.drop_drop]; exact List.drop_sublist 1 _
    exact (List.Sublist.append (List.Sublist.refl _) h2).trans (by rw [← e]; exact List.Sublist.refl _)
  exact ⟨fun m hm => h.1 m (sub.subset hm), h.2.1.sublist sub, Nat.lt_of_le_of_lt sub.length_le h.2.2⟩
theorem det_less {r : List (List Int)} (h : r.Pairwise fun m m' => m.take 3 ≠ m'.take 3) (i : Nat) : (r.take i ++ r.drop (i + 1)).Pairwise fun m m' => m.take 3 ≠ m'.take 3 := by
  have e : r = r.take i ++ r.drop i := (List.take_append_drop i r).symm
  have h2 : (r.drop (i + 1)).Sublist (r.drop i) := by
    rw [← List.drop_drop]; exact List.drop_sublist 1 _
  exact h.sublist ((List.Sublist.append (List.Sublist.refl _) h2).trans (by rw [← e]; exact List.Sublist.refl _))
/-- moves to a standing go to the new one -/
def turnM (many at_ : Int) (m : List Int) : List Int := if m.getD 3 0 = at_ then m.take 3 ++ [many] else m
theorem turn_take {many at_ : Int} {m : List Int} (h : m.length = 4) : (turnM many at_ m).take 3 = m.take 3 := by
  unfold turnM
  by_cases c : m.getD 3 0 = at_
  · rw [if_pos c]
    match m, h with
    | [a, b, c, d], _ => rfl
  · rw [if_neg c]
theorem turn_ok {sz : List Int} {n : Nat} {at_ : Int} {m : List Int} (h : MoveOk sz n m) : MoveOk sz ((n : Int) + 1) (turnM n at_ m) := by
  obtain ⟨a, b, c, s, t, k, g, e, rfl, h1, h2, h3, h4, h5⟩ := h
  unfold turnM
  by_cases q : ([s, t, k, g] : List Int).getD 3 0 = at_
  · rw [if_pos q]
    exact ⟨a, b, c, s, t, k, n, e, rfl, h1, h2, h3, by omega, by omega⟩
  · rw [if_neg q]
    exact ⟨a, b, c, s, t, k, g, e, rfl, h1, h2, h3, h4, by omega⟩
theorem turn_inj {sz : List Int} {n : Nat} {at_ : Int} {m m' : List Int} (h : MoveOk sz n m) (h' : MoveOk sz n m') (e : turnM n at_ m = turnM n at_ m') : m = m' := by
  obtain ⟨_, _, _, s, t, k, g, _, rfl, _, _, _, _, h5⟩ := h
  obtain ⟨_, _, _, s', t', k', g', _, rfl, _, _, _, _, h5'⟩ := h'
  unfold turnM at e
  by_cases q : ([s, t, k, g] : List Int).getD 3 0 = at_
  · rw [if_pos q] at e
    by_cases q' : ([s', t', k', g'] : List Int).getD 3 0 = at_
    · rw [if_pos q'] at e
      have e2 : ([s, t, k, (n : Int)] : List Int) = [s', t', k', (n : Int)] := e
      have qg : g = at_ := q
      have qg' : g' = at_ := q'
      simp at e2
      simp [e2, qg, qg']
    · rw [if_neg q'] at e
      have e2 : ([s, t, k, (n : Int)] : List Int) = [s', t', k', g'] := e
      simp at e2
      omega
  · rw [if_neg q] at e
    by_cases q' : ([s', t', k', g'] : List Int).getD 3 0 = at_
    · rw [if_pos q'] at e
      have e2 : ([s, t, k, g] : List Int) = [s', t', k', (n : Int)] := e
      simp at e2
      omega
    · rw [if_neg q'] at e
      exact e
theorem four_of {sz : List Int} {n : Int} {m : List Int} (h : MoveOk sz n m) : m.length = 4 := by
  obtain ⟨_, _, _, s, t, k, g, _, rfl, _⟩ := h; rfl
theorem row_turn {sz : List Int} {n : Nat} {at_ : Int} {r : List (List Int)} (h : RowOk sz n r) : RowOk sz ((n : Int) + 1) (sortT (r.map (turnM n at_))) := by
  refine ⟨fun m hm => ?_, strict_sortT ?_, by rw [len_sortT, List.length_map]; exact h.2.2⟩
  · obtain ⟨x, hx, rfl⟩ := List.mem_map.mp (mem_sortT.mp hm)
    exact turn_ok (h.1 x hx)
  · rw [List.nodup_iff_pairwise_ne, List.pairwise_map]
    refine (List.Pairwise.and_mem.mp h.2.1).imp fun {a b} q e => ?_
    have := turn_inj (h.1 a q.1) (h.1 b q.2.1) e
    rw [this] at q
    exact List.lt_irrefl _ q.2.2
theorem det_turn {sz : List Int} {n : Nat} {at_ : Int} {r : List (List Int)} (h : RowOk sz n r) (d : r.Pairwise fun m m' => m.take 3 ≠ m'.take 3) : (sortT (r.map (turnM n at_))).Pairwise fun m m' => m.take 3 ≠ m'.take 3 := by
  have p : (sortT (r.map (turnM n at_))).Perm (r.map (turnM n at_)) := List.mergeSort_perm _ _
  refine (p.pairwise_iff (fun {a b} q e => q e.symm)).mpr ?_
  rw [List.pairwise_map]
  refine (List.Pairwise.and_mem.mp d).imp fun {a b} q => ?_
  rw [turn_take (four_of (h.1 a q.1)), turn_take (four_of (h.1 b q.2.1))]
  exact q.2.2
end Fd
set_option Elab.async false
set_option linter.all false
set_option maxRecDepth 100000
set_option maxHeartbeats 4000000
namespace Fd
open PySem PySem.Spec PyProof.Rows L2
theorem moves_app {sz : List Int} {mv : List (List (List Int))} {r : List (List Int)} (h : MovesOk sz mv) (hn : mv.length < 20) (hr : RowOk sz mv.length r) : MovesOk sz (mv ++ [r]) := by
  obtain ⟨h1, h2, h3⟩ := h
  rw [MovesOk, List.length_append, List.length_singleton]
  refine ⟨by omega, by omega, fun x hx => ?_⟩
  have e : (((mv.length + 1 : Nat)) : Int) = (mv.length : Int) + 1 := by omega
  rw [e]
  rcases List.mem_append.mp hx with z | z
  · exact (h3 x z).mono (by omega)
  · rw [List.mem_singleton.mp z]; exact hr.mono (by omega)
theorem clos_app {sz : List Int} {n : Nat} {cl : List (List Int)} {r : List Int} (h : ClosOk sz n cl) (hr : (∀ k ∈ r, ∃ a b c, sz = [a, b, c] ∧ 0 ≤ k ∧ k ≤ c - 1) ∧ r.Pairwise (· < ·) ∧ r.length < 1000000) : ClosOk sz ((n : Int) + 1) (cl ++ [r]) := by
  refine ⟨by rw [List.length_append, List.length_singleton]; have := h.1; omega, fun x hx => ?_⟩
  rcases List.mem_append.mp hx with z | z
  · exact h.2 x z
  · rw [List.mem_singleton.mp z]; exact hr
theorem det_app {sz : List Int} {mv : List (List (List Int))} {cl cl' : List (List Int)} {r : List (List Int)} (h : Det ⟨sz, mv, cl⟩) (hr : r.Pairwise fun m m' => m.take 3 ≠ m'.take 3) : Det ⟨sz, mv ++ [r], cl'⟩ := fun x hx =>
  (List.mem_append.mp (show x ∈ mv ++ [r] from hx)).elim (h x) fun z => by rw [List.mem_singleton.mp z]; exact hr
theorem ptake {α β : Type} {F : α → β → Prop} : ∀ {l : List α} {m : List β} (n : Nat), Paired F l m → Paired F (l.take n) (m.take n)
  | _, _, 0, _ => by rw [List.take_zero, List.take_zero]; exact .nil
  | _, _, n + 1, .nil => .nil
  | _, _, n + 1, .cons h t => .cons h (ptake n t)
theorem pdrop {α β : Type} {F : α → β → Prop} : ∀ {l : List α} {m : List β} (n : Nat), Paired F l m → Paired F (l.drop n) (m.drop n)
  | _, _, 0, p => p
  | _, _, n + 1, .nil => .nil
  | _, _, n + 1, .cons h t => pdrop n t
/-- what t[lo:hi] holds -/
def cutX {α : Type} (xs : List α) (lo hi : Option Int) : List α := (xs.drop (HT.sIx xs.length 0 lo)).take (HT.sIx xs.length xs.length hi - HT.sIx xs.length 0 lo)
theorem sl_row {K : PySem.W.Frag} {α : Type} {R : Rl α} (st : Stb R) {H : Hp} {v : V} {xs : List α} {lo hi : Option Int} {Q : VK} (hv : TT R H v xs) (k : ∀ v' H', Ke H H' → TT R H' v' (cutX xs lo hi) → Q v' H') : rSlA K v lo hi H Q := by
  obtain ⟨a, vs, rfl, ha, p⟩ := hv
  have el := plen p
  refine ⟨a, vs, rfl, SqT.of ha, fun z => k _ _ .refl ⟨a, vs, rfl, ha, ?_⟩, fun _ q hq => k _ _ (Ke.new hq) ⟨q, _, rfl, upd_same, ?_⟩⟩
  · rw [el] at z
    unfold cutX
    rw [z.1, z.2, List.drop_zero, Nat.sub_zero, List.take_length]
    exact p
  · unfold cutV cutX
    rw [el]
    exact ptake _ (pdrop _ (pimp (fun v x r => st _ _ v x (Ke.new hq).tx r) p))
theorem cut_to {α : Type} (xs : List α) (i : Nat) : cutX xs none (some (i : Int)) = xs.take i := by
  unfold cutX
  rw [HT.sIx_none, HT.sIx_nat, List.drop_zero, Nat.sub_zero]
  rcases Nat.le_total i xs.length with h | h
  · rw [Nat.min_eq_left h]
  · rw [Nat.min_eq_right h, List.take_length, List.take_of_length_le h]
theorem cut_from {α : Type} (xs : List α) (i : Nat) : cutX xs (some (i : Int)) none = xs.drop i := by
  unfold cutX
  rw [HT.sIx_none, HT.sIx_nat]
  rcases Nat.le_total i xs.length with h | h
  · rw [Nat.min_eq_left h, List.take_of_length_le (by rw [List.length_drop]; omega)]
  · rw [Nat.min_eq_right h, List.drop_of_length_le h, List.drop_length]; simp
theorem cat_row {K : PySem.W.Frag} {α : Type} {R : Rl α} (st : Stb R) {H : Hp} {x y : V} {xs ys : List α} {Q : VK} (hx : TT R H x xs) (hy : TT R H y ys) (hl : xs.length + ys.length < 2000000) (k : ∀ v' H', Ke H H' → TT R H' v' (xs ++ ys) → Q v' H') : rCatA K x y H Q := by
  obtain ⟨a, vs, rfl, ha, p⟩ := hx
  obtain ⟨b, ws, rfl, hb, q⟩ := hy
  have e1 := plen p
  have e2 := plen q
  refine ⟨a, b, vs, ws, rfl, rfl, SqT.of ha, SqT.of hb, by rw [sizeLine_eq]; omega, fun z => k _ _ .refl ?_, fun _ z => k _ _ .refl ?_, fun _ _ r hr => k _ _ (Ke.new hr) ?_⟩
  · have : xs = [] := List.length_eq_zero_iff.mp (by rw [← e1, z]; rfl)
    rw [this]; exact ⟨b, ws, rfl, hb, q⟩
  · have : ys = [] := List.length_eq_zero_iff.mp (by rw [← e2, z]; rfl)
    rw [this, List.append_nil]; exact ⟨a, vs, rfl, ha, p⟩
  · exact ⟨r, _, rfl, upd_same, papp (pimp (fun v x h => st _ _ v x (Ke.new hr).tx h) p) (pimp (fun v x h => st _ _ v x (Ke.new hr).tx h) q)⟩
/-- an office of right data is made beside the hand -/
theorem mk_off {C hd ca : Addr} {H : Hp} {u vm vc : V} {sz : List Int} {mv : List (List (List Int))} {cl : List (List Int)} {Q : VK} {E : XK} (hA : HandAt H hd ca) (hu : TI H u sz) (hm : TT (TT TI) H vm mv) (hc : TT TI H vc cl) (g : Good sz mv cl)
    (k : ∀ p H', Ks (fun x => x = hd) H H' → HandAt H' hd ca → OfAt C (Hd (fun x => x = hd) H') p ⟨sz, mv, cl⟩ → Q (.ref p) H') :
    ∀ x dx, H x = none → H dx = none → dx ≠ x → sp_init C Good (.ref x :: ([u, vm, vc] ++ [])) (upd (upd H dx (.own x)) x (.ins C dx [])) (fun v H2 => v = .non ∧ Q (.ref x) H2) E := fun x dx hx hdx ndx => by
  have kA : Ke H (upd (upd H dx (.own x)) x (.ins C dx [])) := (Ke.new hdx).trans (Ke.new (by rw [upd_ne ndx.symm]; exact hx))
  have hA4 := hA.ke kA
  have x1 : x ≠ hd := fun z => hA.there.1 (by rw [← z]; exact hx)
  have txA : Tx H (Hd (fun y => y = hd) (upd (upd H dx (.own x)) x (.ins C dx []))) := kA.tx.trans hA4.tx
  refine ⟨fun y => y = hd, x, dx, u, vm, vc, sz, mv, cl, rfl, upd_same, x1, fun y z => by rw [z]; exact hA4.there.1, TI.stb _ _ _ _ txA hu, TT.stb (TT.stb TI.stb) _ _ _ _ txA hm, TT.stb TI.stb _ _ _ _ txA hc, g, fun H4 k4 o => ⟨rfl, ?_⟩⟩
  have kK : Ks (fun y => y = hd) H H4 := Ks.comp kA.ks k4 (fun _ z => z) fun y z => .inr (by rw [z]; exact hx)
  exact k x H4 kK (hA4.ks k4 (fun z => x1 z.symm) fun z => by
    have : x ≠ ca := fun z => hA.there.2 (by rw [← z]; exact hx)
    exact this z.symm) o
theorem seqJ {t u : TS} {D : Ends} {σ : L2.St} {H : Hp} (P : L2.St → Hp → Prop) (k : ∀ nx : L2.St → Hp → Prop, (∀ σ' H', P σ' H' → nx σ' H') → t { D with nx := nx } σ H) (h : ∀ σ' H', P σ' H' → u D σ' H') : tSeq t u D σ H := k (u D) h
theorem stepN {i : Nat} {v : V} {σ : L2.St} {H : Hp} {Q : L2.St → Hp → Prop} (h : Q (σ.set i (some v)) H) : gName i v σ H Q := h
theorem stepT {σ : L2.St} {H : Hp} {D : Ends} (h : D.nx σ H) : tNext D σ H := h
theorem stepA {i : Nat} {v : V} {u : TS} {D : Ends} {σ : L2.St} {H : Hp} (h : u D (σ.set i (some v)) H) : tSeq (tAsg (tC v) (gName i)) u D σ H := h
theorem seqJA {e : TE} {g : TG} {u : TS} {D : Ends} {σ : L2.St} {H : Hp} (P : L2.St → Hp → Prop) (k : ∀ nx : L2.St → Hp → Prop, (∀ σ' H', P σ' H' → nx σ' H') → tAsg e g { D with nx := nx } σ H) (h : ∀ σ' H', P σ' H' → u D σ' H') : tSeq (tAsg e g) u D σ H := k (u D) h
theorem seqJI {c : L2.TT} {a b u : TS} {D : Ends} {σ : L2.St} {H : Hp} (P : L2.St → Hp → Prop) (k : ∀ nx : L2.St → Hp → Prop, (∀ σ' H', P σ' H' → nx σ' H') → tIfS c a b { D with nx := nx } σ H) (h : ∀ σ' H', P σ' H' → u D σ' H') : tSeq (tIfS c a b) u D σ H := k (u D) h
/-- an office that stands beside the hand -/
def Stands (C hd : Addr) (H : Hp) (p : Addr) (o : Ofc) : Prop := OfAt C (Hd (fun x => x = hd) H) p o
theorem Stands.ks {C hd : Addr} {H H' : Hp} {p : Addr} {o : Ofc} (x : Stands C hd H p o) (k : Ks (fun a => a = hd) H H') : Stands C hd H' p o := OffAt.ke x (Hd.ke k)
theorem Stands.of {C hd : Addr} {H : Hp} {p : Addr} {o : Ofc} (x : Stands C hd H p o) : OfAt C H p o := OffAt.ke x (Le.ke Hd.le)
/-- a mark put to a row, or taken from it -/
noncomputable def flipC (mk : Int) (r : List Int) : List Int := if (r.filter fun x => decide (x ≠ mk)).length < r.length then r.filter fun x => decide (x ≠ mk) else sortI ((r.filter fun x => decide (x ≠ mk)) ++ [mk])
theorem flip_ok {sz r : List Int} {a b c mk : Int} (e : sz = [a, b, c]) (h0 : 0 ≤ mk) (h1 : mk < c) (h : (∀ k ∈ r, ∃ a b c, sz = [a, b, c] ∧ 0 ≤ k ∧ k ≤ c - 1) ∧ r.Pairwise (· < ·) ∧ r.length < 1000000) (hl : r.length < 63) :
    (∀ k ∈ flipC mk r, ∃ a b c, sz = [a, b, c] ∧ 0 ≤ k ∧ k ≤ c - 1) ∧ (flipC mk r).Pairwise (· < ·) ∧ (flipC mk r).length < 1000000 := by
  have sub : (r.filter fun x => decide (x ≠ mk)).Sublist r := List.filter_sublist
  unfold flipC
  split
  · exact ⟨fun k hk => h.1 k (sub.subset hk), h.2.1.sublist sub, Nat.lt_of_le_of_lt sub.length_le h.2.2⟩
  · refine ⟨fun k hk => ?_, ?_, ?_⟩
    · rcases List.mem_append.mp (mem_sortI.mp hk) with z | z
      · exact h.1 k (sub.subset z)
      · rw [List.mem_singleton.mp z]; exact ⟨a, b, c, e, h0, by omega⟩
    · refine sorted_lt (sorted_sortI _) ?_
      refine (perm_sortI _).nodup_iff.mpr ?_
      rw [List.nodup_append]
      refine ⟨(h.2.1.sublist sub).imp fun {a b} q => by omega, by simp, fun x hx y hy => ?_⟩
      rw [List.mem_singleton.mp hy]
      have := (List.mem_filter.mp hx).2
      exact of_decide_eq_true this
    · rw [len_sortI, List.length_append, List.length_singleton]
      have := sub.length_le
      omega
theorem row_63 {sz r : List Int} {a b c : Int} (e : sz = [a, b, c]) (hc : c ≤ 4) (h : (∀ k ∈ r, ∃ a b c, sz = [a, b, c] ∧ 0 ≤ k ∧ k ≤ c - 1) ∧ r.Pairwise (· < ·)) : r.length < 63 := by
  have := short_of (n := 4) (h.2.imp fun {a b} q => (by omega : a ≠ b)) fun k hk => by
    obtain ⟨a', b', c', e', h1, h2⟩ := h.1 k hk
    rw [e] at e'
    obtain ⟨rfl, rfl, rfl⟩ : a = a' ∧ b = b' ∧ c = c' := by simpa using e'
    omega
  omega
end Fd
set_option Elab.async false
set_option linter.all false
set_option maxRecDepth 100000
set_option maxHeartbeats 4000000
namespace Fd
open PySem PySem.Spec PyProof.Rows L2
theorem ixn {n j : Nat} (hj : j < n) : ixN n (j : Int) = some j := by
  unfold ixN
  rw [if_pos (by omega), if_pos (by omega)]
  simp
def sp_lchanged (K : PySem.W.Frag) (C : Addr) : Sp := fun xs H Q _ => ∃ hd ca p o, xs = [.ref hd, .ref p] ∧ HandAt H hd ca ∧ OC K C ∧ Stands C hd H p o ∧ Gd o ∧ (∀ r ∈ o.mv, r.length ≤ 10) ∧
  ∀ q (o' : Ofc) H', o'.sz = o.sz → Gd o' → o'.mv.length ≤ o.mv.length + 1 → (Det o → Det o') → Ks (fun x => x = hd) H H' → HandAt H' hd ca → Stands C hd H' q o' → Q (.ref q) H'
/-- the lists of the changed office -/
def ChP (hd ca p : Addr) (o : Ofc) (H : Hp) : L2.St → Hp → Prop := fun σ H' => (∃ x2 x3 x4 s7 s8 s9 s10 s11 s12 ml cl, σ = [some (.ref hd), some (.ref p), x2, x3, x4, some (.ref ml), some (.ref cl), s7, s8, s9, s10, s11, s12] ∧
  ∃ mvs cvs mv' cl', H' ml = some (.lst mvs) ∧ Paired (TT TI H') mvs mv' ∧ H' cl = some (.lst cvs) ∧ Paired (TI H') cvs cl' ∧ Good o.sz mv' cl' ∧ mv'.length ≤ o.mv.length + 1 ∧ (Det o → Det ⟨o.sz, mv', cl'⟩)) ∧ Ks (fun x => x = hd) H H' ∧ HandAt H' hd ca
section
variable {P : Program} {w : World} {K : PySem.W.Frag} {mg : Str → Option Value} {base : Heap} (T : Txt K mg)
include T
theorem ok_l_changed : FnOk P w K mg base CX0 7 T.a_l_changed T.d_l_changed P_l_changed (sp_lchanged K T.a_Office) := by
  refine T.F_l_changed.ok sc_l_changed (fun vs H Q E h => ?_) (fun cdv A outer s H vs Q E hr h => ?_)
  · obtain ⟨hd, ca, p, o, rfl, _⟩ := h; rfl
  · obtain ⟨hd, ca, p, o, rfl, hA, oc, of, g, g10, k⟩ := h
    have hu := hu_of hr
    refine ⟨_, (pss_cons (ps_set (i := 2) sc_l_changed.nd rfl (Or.inl rfl) (pe_call (ok_l_draw T) (hr.mono (by decide)) rfl T.g_l_draw T.k_l_draw T.b_l_draw .nil pass0 (pa_cons (pv 0) (pa_cons pe_int pa_nil))))
  (pss_cons (ps_set (i := 3) sc_l_changed.nd rfl (Or.inr rfl) (pe_callB call_len (by rfl) T.n_len (by decide +kernel) (pa_cons (pe_fld (pv 1) rfl) pa_nil)))
  (pss_cons (ps_set (i := 4) sc_l_changed.nd rfl (Or.inr rfl) (pe_call (ok_l_draw T) (hr.mono (by decide)) rfl T.g_l_draw T.k_l_draw T.b_l_draw .nil pass0 (pa_cons (pv 0) (pa_cons (pv 3) pa_nil))))
  (pss_cons (ps_set (i := 5) sc_l_changed.nd rfl (Or.inl rfl) (pe_callTy call_list_of (by rfl) T.n_list (by decide +kernel) (pa_cons (pe_fld (pv 1) rfl) pa_nil)))
  (pss_cons (ps_set (i := 6) sc_l_changed.nd rfl (Or.inl rfl) (pe_callTy call_list_of (by rfl) T.n_list (by decide +kernel) (pa_cons (pe_fld (pv 1) rfl) pa_nil)))
  (pss_cons (ps_if (pt_cmpR op_eq (pv 2) pe_int (nomark _)) (pss_cons (ps_set (i := 7) sc_l_changed.nd rfl (Or.inr rfl) (pe_call (ok_l_draw T) (hr.mono (by decide)) rfl T.g_l_draw T.k_l_draw T.b_l_draw .nil pass0 (pa_cons (pv 0) (pa_cons (pe_ix ix_tup (pe_fld (pv 1) rfl) pe_int (fun _ _ => rfl)) pa_nil))))
  (pss_cons (ps_setLc (i := 8) (own := [("_law_other", 11)]) rfl sc_l_changed.nd rfl rfl (sw_true rfl rfl rfl (by decide +kernel)) (pi_tup (pe_ix ix_list (pv 6) (pv 4) (fun _ _ => rfl))) (blkOk_by (own := [("_law_other", 11)]) (N := N_l_changed) (sc := defScope s_l_changed) (by decide +kernel)) (fun _ _ _ _ _ => (pg_name (i := 11) sc_l_changed.nd rfl (Or.inl rfl))) (fun _ _ _ _ _ => pts_one (pt_cmpR op_ne (pv 11) (pv 7) (nomark _))) (fun _ _ _ _ _ => (pv 11)))
  (pss_one (ps_asg (pe_ifExp (pt_cmpR op_lt (pe_callB call_len (by rfl) T.n_len (by decide +kernel) (pa_cons (pv 8) pa_nil)) (pe_callB call_len (by rfl) T.n_len (by decide +kernel) (pa_cons (pe_ix ix_list (pv 6) (pv 4) (fun _ _ => rfl)) pa_nil)) (nomark _)) (pe_callTy call_tuple_of (by rfl) T.n_tuple (by decide +kernel) (pa_cons (pv 8) pa_nil)) (pe_callTy call_tuple_of (by rfl) T.n_tuple (by decide +kernel) (pa_cons (pe_callB (cr_sortedD hr) (by rfl) T.n_sorted (by decide +kernel) (pa_cons (pe_op op_cat (pv 8) (pe_lst (pa_cons (pv 7) pa_nil))) pa_nil)) pa_nil))) (pg_sub (pv 6) (pv 4) set_list))))) (pss_one (ps_if (PW.pt (pw_and (pt_cmpR op_eq (pv 2) pe_int (nomark _)) (pw_and1 (pt_cmpR op_gt (pe_callB call_len (by rfl) T.n_len (by decide +kernel) (pa_cons (pe_ix ix_list (pv 5) (pv 4) (fun _ _ => rfl)) pa_nil)) pe_int (nomark _))))) (pss_cons (ps_set (i := 9) sc_l_changed.nd rfl (Or.inl rfl) (pe_call (ok_l_draw T) (hr.mono (by decide)) rfl T.g_l_draw T.k_l_draw T.b_l_draw .nil pass0 (pa_cons (pv 0) (pa_cons (pe_callB call_len (by rfl) T.n_len (by decide +kernel) (pa_cons (pe_ix ix_list (pv 5) (pv 4) (fun _ _ => rfl)) pa_nil)) pa_nil))))
  (pss_one (ps_asg (pe_op op_catA (pe_slice sl_tupA (pe_ix ix_list (pv 5) (pv 4) (fun _ _ => rfl)) po_none (po_some (pv 9))) (pe_slice sl_tupA (pe_ix ix_list (pv 5) (pv 4) (fun _ _ => rfl)) (po_some (pe_op op_add (pv 9) pe_int)) po_none)) (pg_sub (pv 5) (pv 4) set_list)))) (pss_one (ps_if (PW.pt (pw_and (pt_cmpR op_eq (pv 2) pe_int (nomark _)) (pw_and1 (pt_cmpR op_lt (pv 3) pe_int (nomark _))))) (pss_cons (ps_expr (pe_bm PySem.F.plainAttrs_list PySem.F.slot_list_append PySem.F.type_list_append mt_append (pv 5) (pa_cons (pe_ix ix_list (pv 5) (pv 4) (fun _ _ => rfl)) pa_nil)))
  (pss_cons (ps_expr (pe_bm PySem.F.plainAttrs_list PySem.F.slot_list_append PySem.F.type_list_append mt_append (pv 6) (pa_cons (pe_ix ix_list (pv 6) (pv 4) (fun _ _ => rfl)) pa_nil)))
  (pss_cons (ps_setLc (i := 10) (own := [("_law_move", 12)]) rfl sc_l_changed.nd rfl rfl (sw_true rfl rfl rfl (by decide +kernel)) (pi_tup (pe_ix ix_list (pv 5) pe_int (fun _ _ => rfl))) (blkOk_by (own := [("_law_move", 12)]) (N := N_l_changed) (sc := defScope s_l_changed) (by decide +kernel)) (fun _ _ _ _ _ => (pg_name (i := 12) sc_l_changed.nd rfl (Or.inl rfl))) (fun _ _ _ _ _ => pts_nil) (fun _ _ _ _ _ => (pe_ifExp (pt_cmpR op_eq (pe_ix (ix_tupK K rfl) (pv 12) pe_int (fun _ _ => rfl)) (pv 4) (nomark _)) (pe_op (op_catAK K rfl) (pe_slice (sl_tupAK K rfl) (pv 12) po_none (po_some pe_int)) (pe_tup (pa_cons (pv 3) pa_nil))) (pv 12))))
  (pss_one (ps_asg (pe_callTy call_tuple_of (by rfl) T.n_tuple (by decide +kernel) (pa_cons (pe_callB (cr_sortedD hr) (by rfl) T.n_sorted (by decide +kernel) (pa_cons (pv 10) pa_nil)) pa_nil)) (pg_sub (pv 5) pe_int set_list)))))) pss_nil)))))
  (pss_one (ps_ret (pe_make T.m_Office (ok_Office_init T) (hr.mono (by decide)) rfl T.g_Office T.b_Office_init .nil pass0 (pa_cons (pe_fld (pv 1) rfl) (pa_cons (pe_callTy call_tuple_of (by rfl) T.n_tuple (by decide +kernel) (pa_cons (pv 5) pa_nil)) (pa_cons (pe_callTy call_tuple_of (by rfl) T.n_tuple (by decide +kernel) (pa_cons (pv 6) pa_nil)) pa_nil)))))))))))), ?_⟩
    obtain ⟨dx, vs, vm, vc, l, ds, hp0, hsz0, hm0, hc0, _, _⟩ := of.ex
    have tx0 : Tx (Hd (fun x => x = hd) H) H := (Le.ke Hd.le).tx
    have hp : H p = some (.ins T.a_Office dx _) := (Hd.at hp0).2
    have hsz := TI.stb _ _ _ _ tx0 hsz0
    have hm := TT.stb (TT.stb TI.stb) _ _ _ _ tx0 hm0
    have hc := TT.stb TI.stb _ _ _ _ tx0 hc0
    have np : p ≠ hd := fun z => (Hd.at hp0).1 z
    obtain ⟨a, b, c, ez, hra, hrb, hrc⟩ := (good_wf g).sz
    have n1 := g.m.1
    have n20 := g.m.2.1
    have nc := (good_wf g).cl
    obtain ⟨zs, rfl, hzs⟩ := hsz
    rw [ez] at hzs
    obtain ⟨mm, mvs, rfl, hmm, pm⟩ := hm
    obtain ⟨cm, cvs, rfl, hcm, pc⟩ := hc
    have lm := plen pm
    have lc := plen pc
    refine ⟨_, rfl, hd, ca, 4, rfl, hA, ⟨by decide, by decide⟩, fun kd H1 kd0 kd1 k1 hA1 => ?_⟩
    have hm1 : H1 mm = some (.tup mvs) := k1.tup _ _ hmm
    have hc1 : H1 cm = some (.tup cvs) := k1.tup _ _ hcm
    have hp1 := k1.keep _ _ np hp
    refine stepN ?_
    dsimp only
    refine ⟨_, rfl, p, _, dx, _, _, rfl, hp1, oc.c, oc.n2, offF_m _ _ _ _, .ref mm, _, rfl, .inr ⟨_, SqT.of hm1, rfl⟩, stepN ?_⟩
    dsimp only
    refine ⟨_, rfl, _, rfl, hd, ca, _, rfl, hA1, ⟨by omega, by omega⟩, fun at_ H2 at0' at1 k2 hA2 => stepN ?_⟩
    dsimp only
    have k02 := k1.trans k2
    have hp2 := k2.keep _ _ np hp1
    refine ⟨_, rfl, p, _, dx, _, _, rfl, hp2, oc.c, oc.n2, offF_m _ _ _ _, mm, _, rfl, .inr (SqT.of (k2.tup _ _ hm1)), fun ml hml => stepN ?_⟩
    dsimp only
    have ke3 : Ke H2 (upd H2 ml (.lst mvs)) := Ke.new hml
    have hml3 : (upd H2 ml (.lst mvs)) ml = some (.lst mvs) := upd_same
    have mlH : H ml = none := k02.free hml
    have ml1 : ml ≠ hd := fun z => hA2.there.1 (by rw [← z]; exact hml)
    have ml2 : ml ≠ ca := fun z => hA2.there.2 (by rw [← z]; exact hml)
    have hA3 := hA2.ke ke3
    generalize upd H2 ml (.lst mvs) = H3 at ke3 hml3 hA3 ⊢
    have hp3 := ke3.at hp2
    refine ⟨_, rfl, p, _, dx, _, _, rfl, hp3, oc.c, oc.n3, offF_c _ _ _ _, cm, _, rfl, .inr (SqT.of (ke3.at (k2.tup _ _ hc1))), fun cl hcl => stepN ?_⟩
    dsimp only
    have ke4 : Ke H3 (upd H3 cl (.lst cvs)) := Ke.new hcl
    have hcl4 : (upd H3 cl (.lst cvs)) cl = some (.lst cvs) := upd_same
    have clH : H cl = none := (k02.trans ke3.ks).free hcl
    have cl1 : cl ≠ hd := fun z => hA3.there.1 (by rw [← z]; exact hcl)
    have cl2 : cl ≠ ca := fun z => hA3.there.2 (by rw [← z]; exact hcl)
    have ncm : ml ≠ cl := ne_of_none hml3 hcl
    have hA4 := hA3.ke ke4
    have hml4 := ke4.at hml3
    generalize upd H3 cl (.lst cvs) = H4 at ke4 hcl4 hA4 hml4 ⊢
    have k04 : Ks (fun x => x = hd) H H4 := (k02.trans ke3.ks).trans ke4.ks
    have hp4 := ke4.at hp3
    have hzs4 := k04.tup _ _ hzs
    have pm4 : Paired (TT TI H4) mvs o.mv := pimp (fun v x r => TT.stb TI.stb _ _ v x k04.tx r) pm
    have pc4 : Paired (TI H4) cvs o.cl := pimp (fun v x r => TI.stb _ _ v x k04.tx r) pc
    obtain ⟨n, rfl⟩ : ∃ n : Nat, at_ = (n : Int) := ⟨at_.toNat, by omega⟩
    rw [lm] at at1
    have hn : n < o.mv.length := by omega
    obtain ⟨row, hrow⟩ : ∃ row, o.mv[n]? = some row := ⟨_, List.getElem?_eq_getElem hn⟩
    obtain ⟨cro, hcro⟩ : ∃ row, o.cl[n]? = some row := ⟨_, List.getElem?_eq_getElem (by omega)⟩
    obtain ⟨rv, hrv, ra, rws, rfl, hra4, prw⟩ := pget pm4 hrow
    obtain ⟨cv, hcv, cra, rfl, hcra4⟩ := pget pc4 hcro
    have rok := g.m.2.2 row (List.mem_of_getElem? hrow)
    have cok := g.c.2 cro (List.mem_of_getElem? hcro)
    have irv : atI mvs (n : Int) = some (.ref ra) := atI_nat (by simpa using hrv) (by omega)
    have icv : atI cvs (n : Int) = some (.ref cra) := atI_nat (by simpa using hcv) (by omega)
    have ixm : ixN mvs.length (n : Int) = some n := ixn (by omega)
    have ixc : ixN cvs.length (n : Int) = some n := ixn (by omega)
    refine seqJI (ChP hd ca p o H) (fun nx hnx => ?_) ?_
    · refine ⟨_, rfl, rfl, _, rfl, ?_⟩
      by_cases c0 : kd = 0
      · refine iteT' (decide_eq_true (by rw [c0])) ?_
        refine ⟨_, rfl, _, rfl, p, _, dx, _, _, rfl, hp4, oc.c, oc.n1, offF_s _ _ _ _, zs, _, 2, _, rfl, rfl, SqT.of hzs4, rfl, hd, ca, c, rfl, hA4, ⟨by omega, by have := (g.s.2 c (by rw [ez]; simp)).2; omega⟩, fun mk H5 mk0 mk1 k5 hA5 => stepN ?_⟩
        dsimp only
        have hml5 := k5.keep _ _ ml1 hml4
        have hcl5 := k5.keep _ _ cl1 hcl4
        have hcra5 := k5.tup _ _ hcra4
        refine ⟨_, rfl, _, rfl, cl, _, n, _, rfl, rfl, SqL.of hcl5, icv, cra, rfl, ⟨_, SqT.of hcra5⟩, fun D hD => ?_⟩
        refine lw_T (R := II H5) (fun d H' => Ke H5 H' ∧ H' D = some (.lst ((d.filter fun x => decide (x ≠ mk)).map V.int))) (pmap_int cro) ⟨Ke.new hD, upd_same⟩ (fun d H' q => q.1.at hcra5) ?_ ?_
        · rintro d x r v H6 e rfl ⟨k6, hD6⟩
          refine ⟨rfl, _, rfl, _, rfl, rfl, _, rfl, ?_⟩
          rw [List.filter_append, List.map_append]
          have ld : d.length < 1000000 := by have := cok.2.2; rw [e, List.length_append] at this; omega
          by_cases cx : x = mk
          · refine iteF' (fun z => by simp [cx] at z) ⟨k6, ?_⟩
            have e2 : List.filter (fun y => decide (y ≠ mk)) [x] = [] := by simp [cx]
            rw [e2, List.map_nil, List.append_nil]
            exact hD6
          · refine iteT' (by simp [cx]) ⟨_, rfl, _, hD6, ?_, k6.mutNew hD, ?_⟩
            · rw [List.length_map, sizeLine_eq]
              have := List.length_filter_le (fun y => decide (y ≠ mk)) d
              omega
            · have e2 : List.filter (fun y => decide (y ≠ mk)) [x] = [x] := by simp [cx]
              rw [e2]
              exact upd_same
        · rintro H6 ⟨k6, hD6⟩
          refine stepN ?_
          dsimp only
          have ke6 : Ks (fun x => x = hd) H H6 := (k04.trans k5).trans k6.ks
          have hcl6 := k6.at hcl5
          have hml6 := k6.at hml5
          have hcra6 := k6.at hcra5
          have crl : cro.length < 63 := row_63 ez (g.s.2 c (by rw [ez]; simp)).2 ⟨cok.1, cok.2.1⟩
          have fin : ∀ vt H7 s8 s9 s10 s11 s12, Ke H6 H7 → TI H7 vt (flipC mk cro) → gSub (tVar 6) (tVar 4) rSetL vt [some (.ref hd), some (.ref p), some (.int kd), some (.int mvs.length), some (.int n), some (.ref ml), some (.ref cl), some (.int mk), s8, s9, s10, s11, s12] H7 nx := fun vt H7 s8 s9 s10 s11 s12 k7 hvt => by
            have hcl7 := k7.at hcl6
            have tx7 : Tx H4 (upd H7 cl (.lst (cvs.set n vt))) := (k5.tx.trans (k6.trans k7).tx).trans (put_tx hcl7 (fun _ z => nomatch z))
            have txp : Tx H7 (upd H7 cl (.lst (cvs.set n vt))) := put_tx hcl7 (fun _ z => nomatch z)
            refine ⟨_, rfl, _, rfl, cl, cvs, n, n, rfl, rfl, hcl7, ixc, hnx _ _ ⟨⟨_, _, _, _, _, _, _, _, _, ml, cl, rfl, mvs, cvs.set n vt, o.mv, o.cl.set n (flipC mk cro), ?_, pimp (fun v x r => TT.stb TI.stb _ _ v x tx7 r) pm4, upd_same, pset (TI.stb _ _ _ _ txp hvt) n (pimp (fun v x r => TI.stb _ _ v x tx7 r) pc4), ⟨g.s, g.m, clos_set g.c (flip_ok ez mk0 mk1 cok crl)⟩, by omega, fun d x hx => d x hx⟩, (ke6.trans k7.ks).mutNew clH, (((hA5.ke k6).ke k7).mut cl1 cl2)⟩⟩
            rw [upd_ne ncm]; exact k7.at hml6
          refine ⟨_, rfl, .ref D, _, rfl, .inl ⟨_, SqL.of hD6, rfl⟩, _, rfl, _, rfl, cl, _, n, _, rfl, rfl, SqL.of hcl6, icv, .ref cra, _, rfl, .inr ⟨_, SqT.of hcra6, rfl⟩, _, _, rfl, rfl, _, rfl, ?_⟩
          rw [List.length_map, List.length_map]
          by_cases cl0 : (cro.filter fun x => decide (x ≠ mk)).length < cro.length
          · refine iteT' (decide_eq_true (by omega)) ⟨_, rfl, D, _, rfl, .inl ⟨SqL.of hD6, fun t ht => ?_⟩⟩
            refine fin _ _ _ _ _ _ _ (Ke.new ht) ⟨t, rfl, ?_⟩
            unfold flipC
            rw [if_pos cl0, upd_same]
          · refine iteF' (fun z => cl0 (by have := of_decide_eq_true z; omega)) ⟨_, rfl, _, rfl, (by show 1 ≤ sizeLine; decide), fun l1 hl1 => ⟨D, l1, _, _, rfl, rfl, (Ke.new hl1).at hD6, upd_same, ?_, fun q hq => ?_⟩⟩
            · have := List.length_filter_le (fun x => decide (x ≠ mk)) cro
              rw [List.length_map, sizeLine_eq, List.length_singleton]; omega
            · have eq : (List.map V.int (cro.filter fun x => decide (x ≠ mk))) ++ [V.int mk] = ((cro.filter fun x => decide (x ≠ mk)) ++ [mk]).map V.int := by simp
              refine ⟨q, _, Int, II H, PyData.int, (cro.filter fun x => decide (x ≠ mk)) ++ [mk], rfl, SqL.of upd_same, by rw [eq]; exact pmap_int _, fun v b h => II.enc K _ v b h, ok_I, fun p2 out hp2 po => ⟨p2, _, rfl, .inl ⟨SqL.of upd_same, fun t ht => ?_⟩⟩⟩
              refine fin _ _ _ _ _ _ _ ((((Ke.new hl1).trans (Ke.new hq)).trans (Ke.new hp2)).trans (Ke.new ht)) ⟨t, rfl, ?_⟩
              rw [upd_same, paired_int (H := H) po]
              unfold flipC
              rw [if_neg cl0]
              rfl
      · refine iteF' (fun z => c0 (by have z' := of_decide_eq_true z; injection z')) ?_
        -- kind 1
        refine ⟨_, rfl, rfl, _, rfl, ?_⟩
        by_cases c1 : kd = 1
        · refine iteT' (decide_eq_true (by rw [c1])) ?_
          refine ⟨_, rfl, _, rfl, ml, _, n, _, rfl, rfl, SqL.of hml4, irv, .ref ra, _, rfl, .inr ⟨_, SqT.of hra4, rfl⟩, _, _, rfl, rfl, _, rfl, ?_⟩
          by_cases r0 : 0 < row.length
          · refine ifT (by have := plen prw; omega) ?_
            refine ⟨_, rfl, _, rfl, _, rfl, ml, _, n, _, rfl, rfl, SqL.of hml4, irv, .ref ra, _, rfl, .inr ⟨_, SqT.of hra4, rfl⟩, hd, ca, _, rfl, hA4, ⟨by have := plen prw; omega, by have := plen prw; have := g10 row (List.mem_of_getElem? hrow); omega⟩, fun ix H5 ix0 ix1 k5 hA5 => stepN ?_⟩
            dsimp only
            obtain ⟨j, rfl⟩ : ∃ j : Nat, ix = (j : Int) := ⟨ix.toNat, by omega⟩
            have hml5 := k5.keep _ _ ml1 hml4
            have hcl5 := k5.keep _ _ cl1 hcl4
            have hrow5 : TT TI H5 (.ref ra) row := ⟨ra, rws, rfl, k5.tup _ _ hra4, pimp (fun v x r => TI.stb _ _ v x k5.tx r) prw⟩
            refine ⟨_, rfl, _, rfl, ml, _, n, _, rfl, rfl, SqL.of hml5, irv, _, rfl, _, rfl, sl_row TI.stb hrow5 fun v1 H6 k6 hv1 => ?_⟩
            refine ⟨_, rfl, _, rfl, ml, _, n, _, rfl, rfl, SqL.of (k6.at hml5), irv, _, rfl, _, _, rfl, rfl, _, rfl, ?_⟩
            unfold tNoPart
            refine sl_row TI.stb (TT.stb TI.stb _ _ _ _ k6.tx hrow5) fun v2 H7 k7 hv2 => ?_
            rw [cut_to] at hv1
            have ej : (j : Int) + 1 = ((j + 1 : Nat) : Int) := by omega
            rw [ej, cut_from] at hv2
            refine cat_row TI.stb (TT.stb TI.stb _ _ _ _ k7.tx hv1) hv2 (by rw [List.length_take, List.length_drop]; have := g10 row (List.mem_of_getElem? hrow); omega) fun v3 H8 k8 hv3 => ?_
            have k58 : Ke H5 H8 := (k6.trans k7).trans k8
            have hml8 := k58.at hml5
            have tx8 : Tx H4 (upd H8 ml (.lst (mvs.set n v3))) := (k5.tx.trans k58.tx).trans (put_tx hml8 (fun _ z => nomatch z))
            have txp : Tx H8 (upd H8 ml (.lst (mvs.set n v3))) := put_tx hml8 (fun _ z => nomatch z)
            refine ⟨_, rfl, _, rfl, ml, mvs, n, n, rfl, rfl, hml8, ixm, hnx _ _ ⟨⟨_, _, _, _, _, _, _, _, _, ml, cl, rfl, mvs.set n v3, cvs, o.mv.set n (row.take j ++ row.drop (j + 1)), o.cl, upd_same, pset (TT.stb TI.stb _ _ _ _ txp hv3) n (pimp (fun v x r => TT.stb TI.stb _ _ v x tx8 r) pm4), ?_, pimp (fun v x r => TI.stb _ _ v x tx8 r) pc4, ⟨g.s, moves_set g.m (row_less rok j), by rw [List.length_set]; exact g.c⟩, by rw [List.length_set]; omega, fun d => det_set (cl := o.cl) d (det_less (d row (List.mem_of_getElem? hrow)) j)⟩, ((k04.trans k5).trans k58.ks).mutNew mlH, ((hA5.ke k58).mut ml1 ml2)⟩⟩
            rw [upd_ne ncm.symm]; exact k58.at hcl5
          · refine ifF (by have := plen prw; omega) ?_
            refine ⟨_, rfl, rfl, _, rfl, ?_⟩
            refine iteF' (fun z => by have z' := of_decide_eq_true z; injection z' with z'; omega) ?_
            refine iteF' (fun z => by cases z) (stepT (hnx _ _ ?_))
            exact ⟨⟨_, _, _, _, _, _, _, _, _, ml, cl, rfl, mvs, cvs, o.mv, o.cl, hml4, pm4, hcl4, pc4, ⟨g.s, g.m, g.c⟩, by omega, fun d x hx => d x hx⟩, k04, hA4⟩
        · refine iteF' (fun z => c1 (by have z' := of_decide_eq_true z; injection z')) ?_
          refine iteF' (fun z => by cases z) ?_
          refine ⟨_, rfl, rfl, _, rfl, ?_⟩
          by_cases c2 : kd = 2 ∧ o.mv.length < 20
          · refine iteT' (decide_eq_true (by rw [c2.1])) ⟨_, rfl, _, _, rfl, rfl, _, rfl, iteT' (decide_eq_true (by rw [lm]; have := c2.2; omega)) ?_⟩
            obtain ⟨_, c2⟩ := c2
            refine ⟨_, rfl, .inl ⟨rfl, _, SqL.of hml4⟩, _, rfl, _, rfl, ml, _, n, _, rfl, rfl, SqL.of hml4, irv, ml, mvs, _, rfl, rfl, hml4, by rw [sizeLine_eq]; omega, ?_⟩
            have tx5 : Tx H4 (upd H4 ml (.lst (mvs ++ [V.ref ra]))) := put_tx hml4 (fun _ z => nomatch z)
            have hml5 : (upd H4 ml (.lst (mvs ++ [V.ref ra]))) ml = some (.lst (mvs ++ [V.ref ra])) := upd_same
            have hcl5 : (upd H4 ml (.lst (mvs ++ [V.ref ra]))) cl = some (.lst cvs) := by rw [upd_ne ncm.symm]; exact hcl4
            have k5 : Ks (fun x => x = hd) H (upd H4 ml (.lst (mvs ++ [V.ref ra]))) := k04.mutNew mlH
            have hA5 := hA4.mut (o := HO.lst (mvs ++ [V.ref ra])) ml1 ml2
            generalize upd H4 ml (.lst (mvs ++ [V.ref ra])) = H5 at tx5 hml5 hcl5 k5 hA5 ⊢
            refine ⟨_, rfl, .inl ⟨rfl, _, SqL.of hcl5⟩, _, rfl, _, rfl, cl, _, n, _, rfl, rfl, SqL.of hcl5, icv, cl, cvs, _, rfl, rfl, hcl5, by rw [sizeLine_eq]; omega, ?_⟩
            have tx6 : Tx H5 (upd H5 cl (.lst (cvs ++ [V.ref cra]))) := put_tx hcl5 (fun _ z => nomatch z)
            have hcl6 : (upd H5 cl (.lst (cvs ++ [V.ref cra]))) cl = some (.lst (cvs ++ [V.ref cra])) := upd_same
            have hml6 : (upd H5 cl (.lst (cvs ++ [V.ref cra]))) ml = some (.lst (mvs ++ [V.ref ra])) := by rw [upd_ne ncm]; exact hml5
            have k6 : Ks (fun x => x = hd) H (upd H5 cl (.lst (cvs ++ [V.ref cra]))) := k5.mutNew clH
            have hA6 := hA5.mut (o := HO.lst (cvs ++ [V.ref cra])) cl1 cl2
            generalize upd H5 cl (.lst (cvs ++ [V.ref cra])) = H6 at tx6 hcl6 hml6 k6 hA6 ⊢
            have tx46 := tx5.trans tx6
            obtain ⟨row0, hrow0⟩ : ∃ row, o.mv[0]? = some row := ⟨_, List.getElem?_eq_getElem (by omega)⟩
            obtain ⟨rv0, hrv0, ra0, rws0, rfl, hra0, prw0⟩ := pget pm4 hrow0
            have rok0 := g.m.2.2 row0 (List.mem_of_getElem? hrow0)
            have i0 : atI (mvs ++ [V.ref ra]) 0 = some (.ref ra0) := atI_nat (i := 0) (by rw [List.getElem?_append_left (by omega)]; exact hrv0) rfl
            have hra6 := tx46.tup _ _ hra0
            have prw6 : Paired (TI H6) rws0 row0 := pimp (fun v x r => TI.stb _ _ v x tx46 r) prw0
            have l10 := g10 row0 (List.mem_of_getElem? hrow0)
            refine ⟨_, rfl, ml, _, 0, _, rfl, rfl, SqL.of hml6, i0, ra0, rfl, ⟨_, SqT.of hra6⟩, fun D hD => ?_⟩
            refine lc_T (R := TI H6) TI.stb (f := turnM o.mv.length n) hD (by have := plen prw6; rw [sizeLine_eq]; omega) prw6 hra6 ?_ ?_
            · rintro v m H7 hm ⟨ma, rfl, hma⟩ k7 Q' q'
              obtain ⟨a', b', c', s', n', k', g', _, rfl, _⟩ := rok0.1 m hm
              have hma7 := k7.at hma
              refine ⟨rfl, _, rfl, ma, _, 3, _, rfl, rfl, SqT.of hma7, rfl, _, rfl, rfl, _, rfl, ?_⟩
              unfold turnM at q'
              by_cases cg : g' = (n : Int)
              · rw [if_pos (show ([s', n', k', g'] : List Int).getD 3 0 = (n : Int) from cg)] at q'
                refine iteT' (decide_eq_true (by rw [cg])) ⟨_, rfl, 3, rfl, sl_row II.stb (TI.tt.mp ⟨ma, rfl, hma7⟩) fun v1 H8 k8 hv1 => ⟨_, rfl, (by show 1 ≤ sizeLine; decide), fun t ht => ?_⟩⟩
                have e3 : cutX [s', n', k', g'] none (some 3) = [s', n', k'] := cut_to [s', n', k', g'] 3
                rw [e3] at hv1
                refine cat_row II.stb (TT.stb II.stb _ _ _ _ (Ke.new ht).tx hv1) (TI.tt.mp ⟨t, rfl, upd_same⟩ : TT II _ _ [(mvs.length : Int)]) (by show 3 + 1 < 2000000; decide) fun v2 H9 k9 hv2 => q' _ _ ((k8.trans (Ke.new ht)).trans k9) ?_
                have := TI.tt.mpr hv2
                rw [lm] at this
                exact this
              · rw [if_neg (show ¬ ([s', n', k', g'] : List Int).getD 3 0 = (n : Int) from cg)] at q'
                exact iteF' (fun z => cg (by have z' := of_decide_eq_true z; injection z')) ⟨_, rfl, q' _ _ .refl ⟨ma, rfl, hma7⟩⟩
            · intro H7 ws k7 hD7 pws
              refine stepN ?_
              dsimp only
              refine ⟨_, rfl, D, ws, List Int, TI H7, tI, _, rfl, SqL.of hD7, pws, fun v b r => TI.enc K H7 v b r, ok_T (fun m hm => ?_), fun p2 out hp2 po => ⟨p2, out, rfl, .inl ⟨SqL.of upd_same, fun t ht => ?_⟩⟩⟩
              · obtain ⟨x, hx, rfl⟩ := List.mem_map.mp hm
                have := turn_ok (at_ := n) (rok0.1 x hx)
                intro z
                rw [z] at this
                cases four_of this
              · have k8 : Ke H7 (upd (upd H7 p2 (.lst out)) t (.tup out)) := (Ke.new hp2).trans (Ke.new ht)
                have ht8 : (upd (upd H7 p2 (.lst out)) t (.tup out)) t = some (.tup out) := upd_same
                generalize upd (upd H7 p2 (.lst out)) t (.tup out) = H8 at k8 ht8 ⊢
                have k68 := k7.trans k8
                have hml8 := k68.at hml6
                have txp : Tx H8 (upd H8 ml (.lst ((mvs ++ [V.ref ra]).set 0 (.ref t)))) := put_tx hml8 (fun _ z => nomatch z)
                have tx8 : Tx H4 (upd H8 ml (.lst ((mvs ++ [V.ref ra]).set 0 (.ref t)))) := (tx46.trans k68.tx).trans txp
                have pout : TT TI H8 (.ref t) (sortT (row0.map (turnM o.mv.length n))) := ⟨t, out, rfl, ht8, pimp (fun v x r => TI.stb _ _ v x k8.tx r) po⟩
                have mapp : MovesOk o.sz (o.mv ++ [row]) := moves_app g.m c2 rok
                have en : (((o.mv ++ [row]).length : Nat) : Int) = (o.mv.length : Int) + 1 := by rw [List.length_append, List.length_singleton]; omega
                refine ⟨_, rfl, ml, _, 0, 0, rfl, rfl, hml8, ixn (j := 0) (by rw [List.length_append, List.length_singleton]; omega), hnx _ _ ⟨⟨_, _, _, _, _, _, _, _, _, ml, cl, rfl, _, cvs ++ [V.ref cra], (o.mv ++ [row]).set 0 (sortT (row0.map (turnM o.mv.length n))), o.cl ++ [cro], upd_same, pset (TT.stb TI.stb _ _ _ _ txp pout) 0 (papp (pimp (fun v x r => TT.stb TI.stb _ _ v x tx8 r) pm4) (.cons (TT.stb TI.stb _ _ _ _ tx8 ⟨ra, rws, rfl, hra4, prw⟩) .nil)), ?_, papp (pimp (fun v x r => TI.stb _ _ v x tx8 r) pc4) (.cons (TI.stb _ _ _ _ tx8 ⟨cra, rfl, hcra4⟩) .nil), ⟨g.s, moves_set mapp (by rw [en]; exact row_turn rok0), by rw [List.length_set, en]; exact clos_app g.c cok⟩, by rw [List.length_set, List.length_append, List.length_singleton]; omega, fun d => det_set (cl := o.cl ++ [cro]) (det_app d (d row (List.mem_of_getElem? hrow))) (det_turn rok0 (d row0 (List.mem_of_getElem? hrow0)))⟩, (k6.trans k68.ks).mutNew mlH, ((hA6.ke k68).mut ml1 ml2)⟩⟩
                rw [upd_ne ncm.symm]; exact k68.at hcl6
          · by_cases c3 : kd = 2
            · refine iteT' (decide_eq_true (by rw [c3])) ⟨_, rfl, _, _, rfl, rfl, _, rfl, iteF' (fun z => c2 ⟨c3, by have := of_decide_eq_true z; rw [lm] at this; omega⟩) (stepT (hnx _ _ ?_))⟩
              exact ⟨⟨_, _, _, _, _, _, _, _, _, ml, cl, rfl, mvs, cvs, o.mv, o.cl, hml4, pm4, hcl4, pc4, ⟨g.s, g.m, g.c⟩, by omega, fun d x hx => d x hx⟩, k04, hA4⟩
            · refine iteF' (fun z => c3 (by have z' := of_decide_eq_true z; injection z')) (iteF' (fun z => by cases z) (stepT (hnx _ _ ?_)))
              exact ⟨⟨_, _, _, _, _, _, _, _, _, ml, cl, rfl, mvs, cvs, o.mv, o.cl, hml4, pm4, hcl4, pc4, ⟨g.s, g.m, g.c⟩, by omega, fun d x hx => d x hx⟩, k04, hA4⟩
    · rintro σ H5 ⟨⟨x2, x3, x4, s7, s8, s9, s10, s11, s12, ml', cl', rfl, mvs', cvs', mv', cl'', hml5, pm5, hcl5, pc5, g5, len5, det5⟩, k5, hA5⟩
      have hp5 := k5.keep _ _ np hp
      refine ⟨_, rfl, p, _, dx, _, _, rfl, hp5, oc.c, oc.n1, offF_s _ _ _ _, _, rfl, ml', mvs', rfl, .inl ⟨SqL.of hml5, fun tm htm => ?_⟩⟩
      have k6 : Ke H5 (upd H5 tm (.tup mvs')) := Ke.new htm
      have htm6 : (upd H5 tm (.tup mvs')) tm = some (.tup mvs') := upd_same
      have hA6 := hA5.ke k6
      generalize upd H5 tm (.tup mvs') = H6 at k6 htm6 hA6 ⊢
      refine ⟨_, rfl, cl', cvs', rfl, .inl ⟨SqL.of (k6.at hcl5), fun tc htc => ?_⟩⟩
      have k7 : Ke H6 (upd H6 tc (.tup cvs')) := Ke.new htc
      have htc7 : (upd H6 tc (.tup cvs')) tc = some (.tup cvs') := upd_same
      have hA7 := hA6.ke k7
      generalize upd H6 tc (.tup cvs') = H7 at k7 htc7 hA7 ⊢
      have k07 : Ks (fun x => x = hd) H H7 := (k5.trans k6.ks).trans k7.ks
      refine mk_off hA7 (by rw [ez]; exact ⟨zs, rfl, k07.tup _ _ hzs⟩) ⟨tm, mvs', rfl, k7.at htm6, pimp (fun v x r => TT.stb TI.stb _ _ v x (k6.trans k7).tx r) pm5⟩ ⟨tc, cvs', rfl, htc7, pimp (fun v x r => TI.stb _ _ v x (k6.trans k7).tx r) pc5⟩ g5 fun q H8 k8 hA8 of8 => ?_
      exact k q ⟨o.sz, mv', cl''⟩ H8 rfl g5 len5 det5 (k07.trans k8) hA8 of8
end
end Fd
set_option Elab.async false
set_option linter.all false
set_option maxRecDepth 100000
set_option maxHeartbeats 4000000
namespace Fd
open PySem PySem.Spec PyProof.Rows L2
/-- a list of rows of ints that stays -/
def InnL (S : Addr → Prop) : Rl (List (List Int)) := fun H v xs => ∃ a vs, v = .ref a ∧ ¬ S a ∧ H a = some (.lst vs) ∧ Paired (TI H) vs xs
theorem InnL.ks {S : Addr → Prop} {H H' : Hp} {v : V} {xs : List (List Int)} (k : Ks S H H') (h : InnL S H v xs) : InnL S H' v xs := by
  obtain ⟨a, vs, rfl, n, h1, h2⟩ := h
  exact ⟨a, vs, rfl, n, k.keep _ _ n h1, pimp (fun v x r => TI.stb _ _ v x k.tx r) h2⟩
def sp_lring (C : Addr) : Sp := fun xs H Q _ => ∃ hd ca u a b c, xs = [.ref hd, u] ∧ HandAt H hd ca ∧ TI H u [a, b, c] ∧ (1 ≤ a ∧ a ≤ 4) ∧ (1 ≤ b ∧ b ≤ 4) ∧ (1 ≤ c ∧ c ≤ 4) ∧
  ∀ q (o : Ofc) H', o.sz = [a, b, c] → Gd o → Det o → (∀ r ∈ o.mv, r.length ≤ 10) → Ks (fun x => x = hd) H H' → HandAt H' hd ca → Stands C hd H' q o → Q (.ref q) H'
/-- the rows of a ring: one move for every slip -/
structure RingR (b c : Int) (many n : Int) (row : List (List Int)) : Prop where
  ok : ∀ m ∈ row, ∃ x y z g, m = [x, y, z, g] ∧ (0 ≤ x ∧ x < n) ∧ (0 ≤ y ∧ y < b) ∧ (0 ≤ z ∧ z < c) ∧ 0 ≤ g ∧ g < many
  asc : row.Pairwise (· < ·)
  det : row.Pairwise fun m m' => m.take 3 ≠ m'.take 3
theorem RingR.snoc {b c many n : Int} {row : List (List Int)} (h : RingR b c many n row) {y z g : Int} (hn : 0 ≤ n) (hy : 0 ≤ y ∧ y < b) (hz : 0 ≤ z ∧ z < c) (hg : 0 ≤ g ∧ g < many) : RingR b c many (n + 1) (row ++ [[n, y, z, g]]) where
  ok := fun m hm => by
    rcases List.mem_append.mp hm with q | q
    · obtain ⟨x', y', z', g', e, h1, h2⟩ := h.ok m q
      exact ⟨x', y', z', g', e, ⟨h1.1, by omega⟩, h2⟩
    · rw [List.mem_singleton.mp q]; exact ⟨n, y, z, g, rfl, ⟨hn, by omega⟩, hy, hz, hg⟩
  asc := by
    rw [List.pairwise_append]
    refine ⟨h.asc, by simp, fun m hm m' hm' => ?_⟩
    rw [List.mem_singleton.mp hm']
    obtain ⟨x', y', z', g', rfl, h1, _⟩ := h.ok m hm
    exact List.Lex.rel h1.2
  det := by
    rw [List.pairwise_append]
    refine ⟨h.det, by simp, fun m hm m' hm' e => ?_⟩
    rw [List.mem_singleton.mp hm'] at e
    obtain ⟨x', y', z', g', rfl, h1, _⟩ := h.ok m hm
    have e' : ([x', y', z'] : List Int) = [n, y, z] := e
    injection e' with e'
    omega
theorem RingR.row {a b c many : Int} {row : List (List Int)} (h : RingR b c many a row) (hl : row.length < 1000000) : RowOk [a, b, c] many row := ⟨fun m hm => by
  obtain ⟨x, y, z, g, rfl, h1, h2, h3, h4⟩ := h.ok m hm
  exact ⟨a, b, c, x, y, z, g, rfl, rfl, ⟨by omega, by omega⟩, ⟨by omega, by omega⟩, ⟨by omega, by omega⟩, by omega, by omega⟩, h.asc, hl⟩
theorem mod_nat (i n : Nat) : (0 + (i : Int)) % (n : Int) = ((i % n : Nat) : Int) := by rw [Int.zero_add]; rfl
def PrOk2 (b c : Int) (p : List Int) : Prop := ∃ x y, p = [x, y] ∧ (0 ≤ x ∧ x < b) ∧ 0 ≤ y ∧ y < c
section
variable {P : Program} {w : World} {K : PySem.W.Frag} {mg : Str → Option Value} {base : Heap} (T : Txt K mg)
include T
theorem ok_l_ring_office : FnOk P w K mg base CX0 7 T.a_l_ring_office T.d_l_ring_office P_l_ring_office (sp_lring T.a_Office) := by
  refine T.F_l_ring_office.ok sc_l_ring_office (fun vs H Q E h => ?_) (fun cdv A outer s H vs Q E hr h => ?_)
  · obtain ⟨hd, ca, u, a, b, c, rfl, _⟩ := h; rfl
  · obtain ⟨hd, ca, u, a, b, c, rfl, hA, ⟨ua, rfl, hu0⟩, ha, hb, hc, k⟩ := h
    have hu := hu_of hr
    refine ⟨_, (pss_cons (ps_set (i := 2) sc_l_ring_office.nd rfl (Or.inl rfl) (pe_op op_add pe_int (pe_call (ok_l_draw T) (hr.mono (by decide)) rfl T.g_l_draw T.k_l_draw T.b_l_draw .nil pass0 (pa_cons (pv 0) (pa_cons pe_int pa_nil)))))
  (pss_cons (ps_set (i := 3) sc_l_ring_office.nd rfl (Or.inr rfl) (pe_op op_add pe_int (pe_call (ok_l_draw T) (hr.mono (by decide)) rfl T.g_l_draw T.k_l_draw T.b_l_draw .nil pass0 (pa_cons (pv 0) (pa_cons (pv 2) pa_nil)))))
  (pss_cons (ps_set (i := 4) sc_l_ring_office.nd rfl (Or.inl rfl) (pe_lst pa_nil))
  (pss_cons (ps_for PassesOwn.never rfl (pi_range1 rfl T.n_range (pa_cons (pv 3) pa_nil)) (pg_name (i := 5) sc_l_ring_office.nd rfl (Or.inl rfl)) (pss_one (ps_expr (pe_bm PySem.F.plainAttrs_list PySem.F.slot_list_append PySem.F.type_list_append mt_append (pv 4) (pa_cons (pe_lc (own := [("_law_slip", 10)]) rfl sc_l_ring_office.nd (pi_range1 rfl T.n_range (pa_cons (pe_ix ix_tup (pv 1) pe_int (fun _ _ => rfl)) pa_nil)) (blkOk_by (own := [("_law_slip", 10)]) (N := N_l_ring_office) (sc := defScope s_l_ring_office) (by decide +kernel)) (fun _ _ _ _ _ => (pg_name (i := 10) sc_l_ring_office.nd rfl (Or.inl rfl))) (fun _ _ _ _ _ => pts_nil) (fun _ _ _ _ _ => (pe_tup (pa_cons (pe_call (ok_l_draw T) (hr.mono (by decide)) rfl T.g_l_draw T.k_l_draw T.b_l_draw .nil pass0 (pa_cons (pv 0) (pa_cons (pe_ix (ix_tupK K rfl) (pv 1) pe_int (fun _ _ => rfl)) pa_nil))) (pa_cons (pe_call (ok_l_draw T) (hr.mono (by decide)) rfl T.g_l_draw T.k_l_draw T.b_l_draw .nil pass0 (pa_cons (pv 0) (pa_cons (pe_ix (ix_tupK K rfl) (pv 1) pe_int (fun _ _ => rfl)) pa_nil))) pa_nil))))) pa_nil)))))
  (pss_cons (ps_set (i := 6) sc_l_ring_office.nd rfl (Or.inr rfl) (pe_lc (own := [("_law_at", 5)]) rfl sc_l_ring_office.nd (pi_range1 rfl T.n_range (pa_cons (pv 3) pa_nil)) (blkOk_by (own := [("_law_at", 5)]) (N := N_l_ring_office) (sc := defScope s_l_ring_office) (by decide +kernel)) (fun _ _ _ _ _ => (pg_name (i := 5) sc_l_ring_office.nd rfl (Or.inl rfl))) (fun _ _ _ _ _ => pts_nil) (fun _ _ _ _ _ => (pe_callTy (tuple_ofK K rfl) (by rfl) T.n_tuple (by decide +kernel) (pa_cons (pe_lc (own := [("_law_mark", 12)]) rfl sc_l_ring_office.nd (pi_range1 rfl T.n_range (pa_cons (pe_ix (ix_tupK K rfl) (pv 1) pe_int (fun _ _ => rfl)) pa_nil)) (blkOk_by (own := [("_law_mark", 12)]) (N := N_l_ring_office) (by kernel_rfl)) (fun _ _ _ _ _ => (pg_name (i := 12) sc_l_ring_office.nd rfl (Or.inl rfl))) (fun _ _ _ _ _ => pts_one (PW.pt (pw_or (pt_cmpR op_eq (pv 12) pe_int (nomark _)) (pw_or1 (pt_cmpR op_eq (pe_call (ok_l_draw T) (hr.mono (by decide)) rfl T.g_l_draw T.k_l_draw T.b_l_draw .nil pass0 (pa_cons (pv 0) (pa_cons pe_int pa_nil))) pe_int (nomark _)))))) (fun _ _ _ _ _ => (pv 12))) pa_nil)))))
  (pss_cons (ps_set (i := 7) sc_l_ring_office.nd rfl (Or.inl rfl) (pe_cmpR op_eq (pe_call (ok_l_draw T) (hr.mono (by decide)) rfl T.g_l_draw T.k_l_draw T.b_l_draw .nil pass0 (pa_cons (pv 0) (pa_cons pe_int pa_nil))) pe_int (nomark _)))
  (pss_cons (ps_set (i := 8) sc_l_ring_office.nd rfl (Or.inl rfl) (pe_lst pa_nil))
  (pss_cons (ps_for PassesOwn.never rfl (pi_range1 rfl T.n_range (pa_cons (pv 2) pa_nil)) (pg_name (i := 5) sc_l_ring_office.nd rfl (Or.inl rfl)) (pss_cons (ps_set (i := 9) sc_l_ring_office.nd rfl (Or.inl rfl) (pe_lst pa_nil))
  (pss_cons (ps_for PassesOwn.never rfl (pi_range1 rfl T.n_range (pa_cons (pe_ix ix_tup (pv 1) pe_int (fun _ _ => rfl)) pa_nil)) (pg_name (i := 10) sc_l_ring_office.nd rfl (Or.inl rfl)) (pss_cons (ps_set (i := 11) sc_l_ring_office.nd rfl (Or.inl rfl) (pe_op op_mod (pe_callTy call_int1 (by rfl) T.n_int (by decide +kernel) (pa_cons (pe_op op_add (pv 5) pe_int) pa_nil)) (pv 2)))
  (pss_cons (ps_if (PW.pt (pw_and (pt_val (pv 7)) (pw_and1 (pt_cmpR op_eq (pv 10) pe_int (nomark _))))) (pss_one (ps_set (i := 11) sc_l_ring_office.nd rfl (Or.inl rfl) pe_int)) pss_nil)
  (pss_one (ps_expr (pe_bm PySem.F.plainAttrs_list PySem.F.slot_list_append PySem.F.type_list_append mt_append (pv 9) (pa_cons (pe_op op_catA (pe_op op_catA (pe_tup (pa_cons (pv 10) pa_nil)) (pe_ix ix_list (pe_ix ix_list (pv 4) (pe_op op_mod (pe_callTy call_int1 (by rfl) T.n_int (by decide +kernel) (pa_cons (pv 5) pa_nil)) (pv 3)) (fun _ _ => rfl)) (pv 10) (fun _ _ => rfl))) (pe_tup (pa_cons (pv 11) pa_nil))) pa_nil)))))))
  (pss_one (ps_expr (pe_bm PySem.F.plainAttrs_list PySem.F.slot_list_append PySem.F.type_list_append mt_append (pv 8) (pa_cons (pe_callTy call_tuple_of (by rfl) T.n_tuple (by decide +kernel) (pa_cons (pv 9) pa_nil)) pa_nil)))))))
  (pss_one (ps_ret (pe_make T.m_Office (ok_Office_init T) (hr.mono (by decide)) rfl T.g_Office T.b_Office_init .nil pass0 (pa_cons (pv 1) (pa_cons (pe_callTy call_tuple_of (by rfl) T.n_tuple (by decide +kernel) (pa_cons (pv 8) pa_nil)) (pa_cons (pe_callTy call_tuple_of (by rfl) T.n_tuple (by decide +kernel) (pa_cons (pe_lc (own := [("_law_at", 5)]) rfl sc_l_ring_office.nd (pi_range1 rfl T.n_range (pa_cons (pv 2) pa_nil)) (blkOk_by (own := [("_law_at", 5)]) (N := N_l_ring_office) (sc := defScope s_l_ring_office) (by decide +kernel)) (fun _ _ _ _ _ => (pg_name (i := 5) sc_l_ring_office.nd rfl (Or.inl rfl))) (fun _ _ _ _ _ => pts_nil) (fun _ _ _ _ _ => (pe_ix (ix_listK K rfl) (pv 6) (pe_op op_mod (pe_callTy call_int1 (by rfl) T.n_int (by decide +kernel) (pa_cons (pv 5) pa_nil)) (pv 3)) (fun _ _ => rfl)))) pa_nil)) pa_nil)))))))))))))), ?_⟩
    refine ⟨_, rfl, hd, ca, 14, rfl, hA, ⟨by decide, by decide⟩, fun mr H1 mr0 mr1 k1 hA1 => ⟨_, _, rfl, rfl, stepN ?_⟩⟩
    dsimp only
    refine ⟨_, rfl, _, rfl, hd, ca, 7 + mr, rfl, hA1, ⟨by omega, by omega⟩, fun pr H2 pr0 pr1 k2 hA2 => ⟨_, _, rfl, rfl, stepN ?_⟩⟩
    dsimp only
    obtain ⟨many, hmany⟩ : ∃ many : Nat, 7 + mr = (many : Int) := ⟨(7 + mr).toNat, by omega⟩
    obtain ⟨per, hper⟩ : ∃ per : Nat, 1 + pr = (per : Int) := ⟨(1 + pr).toNat, by omega⟩
    rw [hmany, hper]
    have k02 := k1.trans k2
    refine ⟨by decide, fun tl htl => stepN ?_⟩
    dsimp only
    have tl1 : tl ≠ hd := fun z => hA2.there.1 (by rw [← z]; exact htl)
    have tl2 : tl ≠ ca := fun z => hA2.there.2 (by rw [← z]; exact htl)
    refine seqJ (fun σ H' => (∃ s5 s6 s7 s8 s9 s10 s11 s12, σ = [some (.ref hd), some (.ref ua), some (.int many), some (.int per), some (.ref tl), s5, s6, s7, s8, s9, s10, s11, s12]) ∧ Ks (fun x => x = hd) H H' ∧ HandAt H' hd ca ∧ ∃ ws told, H' tl = some (.lst ws) ∧ Paired (InnL (fun x => x = hd ∨ x = tl) H') ws told ∧ told.length = per ∧ ∀ r ∈ told, (r.length : Int) = a ∧ ∀ p ∈ r, PrOk2 b c p) (fun nx hnx => ?_) ?_
    · refine ⟨_, rfl, (per : Int), rfl, by omega, by omega, for_range (n := ((per : Int)).toNat) (fun i σ H' => (∃ s5 s6 s7 s8 s9 s10 s11 s12, σ = [some (.ref hd), some (.ref ua), some (.int many), some (.int per), some (.ref tl), s5, s6, s7, s8, s9, s10, s11, s12]) ∧ Ks (fun x => x = hd) H H' ∧ HandAt H' hd ca ∧ ∃ ws told, H' tl = some (.lst ws) ∧ Paired (InnL (fun x => x = hd ∨ x = tl) H') ws told ∧ told.length = i ∧ ∀ r ∈ told, (r.length : Int) = a ∧ ∀ p ∈ r, PrOk2 b c p)
        ⟨⟨_, _, _, _, _, _, _, _, rfl⟩, k02.trans (Ke.new htl).ks, hA2.ke (Ke.new htl), [], [], upd_same, .nil, rfl, (fun r z => by cases z)⟩ ?_ (fun σ H' q => hnx _ _ (by rw [Int.toNat_natCast] at q; exact q))⟩
      rintro i σ H3 hi ⟨⟨s5, s6, s7, s8, s9, s10, s11, s12, rfl⟩, k3, hA3, ws, told, htl3, pt, lt, okt⟩
      rw [Int.toNat_natCast] at hi
      have hu3 := k3.tup _ _ hu0
      refine ⟨_, rfl, .inl ⟨rfl, _, SqL.of htl3⟩, _, rfl, ua, _, 0, _, rfl, rfl, SqT.of hu3, rfl, a, rfl, by omega, by omega, fun D hD => ?_⟩
      have m1 : D ≠ hd := fun z => hA3.there.1 (by rw [← z]; exact hD)
      have m2 : D ≠ ca := fun z => hA3.there.2 (by rw [← z]; exact hD)
      have m3 : D ≠ tl := (ne_of_none htl3 hD).symm
      refine lw_range (n := a.toNat) (fun j H' => Ks (fun x => x = hd) H3 H' ∧ HandAt H' hd ca ∧ ∃ rs row, H' D = some (.lst rs) ∧ Paired (TI H') rs row ∧ row.length = j ∧ ∀ p ∈ row, PrOk2 b c p) ⟨(Ke.new hD).ks, hA3.ke (Ke.new hD), [], [], upd_same, .nil, rfl, (fun _ z => by cases z)⟩ ?_ ?_
      · rintro j H4 hj ⟨k4, hA4, rs, row, hD4, prs, lr, okr⟩
        refine ⟨rfl, _, rfl, _, rfl, ua, _, 1, _, rfl, rfl, SqT.of (k4.tup _ _ hu3), rfl, hd, ca, b, rfl, hA4, ⟨by omega, by omega⟩, fun x H5 x0 x1 k5 hA5 => ?_⟩
        refine ⟨_, rfl, _, rfl, ua, _, 2, _, rfl, rfl, SqT.of ((k4.trans k5).tup _ _ hu3), rfl, hd, ca, c, rfl, hA5, ⟨by omega, by omega⟩, fun y H6 y0 y1 k6 hA6 => ⟨(by show 2 ≤ sizeLine; decide), fun t ht => ?_⟩⟩
        have kt : Ke H6 (upd H6 t (.tup [.int x, .int y])) := Ke.new ht
        have ht7 : (upd H6 t (.tup [.int x, .int y])) t = some (.tup [.int x, .int y]) := upd_same
        generalize upd H6 t (.tup [.int x, .int y]) = H7 at kt ht7 ⊢
        have k47 := (k5.trans k6).trans kt.ks
        have hD7 : H7 D = some (.lst rs) := k47.keep _ _ m1 hD4
        have txp : Tx H7 (upd H7 D (.lst (rs ++ [.ref t]))) := put_tx hD7 (fun _ z => nomatch z)
        have lrs := plen prs
        refine ⟨rs, hD7, by rw [sizeLine_eq]; omega, (k4.trans k47).mutNew hD, (hA6.ke kt).mut m1 m2, _, row ++ [[x, y]], upd_same, papp (pimp (fun v x r => TI.stb _ _ v x (k47.tx.trans txp) r) prs) (.cons ⟨t, rfl, txp.tup _ _ ht7⟩ .nil), by rw [List.length_append, lr]; rfl, fun p hp => ?_⟩
        rcases List.mem_append.mp hp with z | z
        · exact okr p z
        · rw [List.mem_singleton.mp z]; exact ⟨x, y, rfl, ⟨x0, x1⟩, y0, y1⟩
      · rintro H4 ⟨k4, hA4, rs, row, hD4, prs, lr, okr⟩
        have htl4 := k4.keep _ _ tl1 htl3
        have lws := plen pt
        have txp : Tx H4 (upd H4 tl (.lst (ws ++ [.ref D]))) := put_tx htl4 (fun _ z => nomatch z)
        refine ⟨tl, ws, _, rfl, rfl, htl4, by rw [sizeLine_eq]; omega, ⟨_, _, _, _, _, _, _, _, rfl⟩, (k3.trans k4).mutNew (k02.free htl), hA4.mut tl1 tl2, _, told ++ [row], upd_same, papp (pimp (fun v x r => InnL.ks ((k4.mono fun _ z => .inl z).mut (.inr rfl) (fun ys z => by rw [htl4] at z; cases z)) r) pt) (.cons ⟨D, rs, rfl, fun z => z.elim m1 m3, by rw [upd_ne m3]; exact hD4, pimp (fun v x r => TI.stb _ _ v x txp r) prs⟩ .nil), by rw [List.length_append, lt]; rfl, fun r hr => ?_⟩
        rcases List.mem_append.mp hr with z | z
        · exact okt r z
        · rw [List.mem_singleton.mp z]; exact ⟨by omega, okr⟩
    · rintro σ H3 ⟨⟨s5, s6, s7, s8, s9, s10, s11, s12, rfl⟩, k3, hA3, ws, told, htl3, pt', lt, okt⟩
      have hu3 := k3.tup _ _ hu0
      have pt : Paired (InnL (fun x => x = hd) H3) ws told := pimp (fun v x ⟨a, vs, e, n, h1, h2⟩ => ⟨a, vs, e, fun z => n (.inl z), h1, h2⟩) pt'
      clear pt'
      refine ⟨_, rfl, (per : Int), rfl, by omega, by omega, fun D1 hD1 => ?_⟩
      have m1 : D1 ≠ hd := fun z => hA3.there.1 (by rw [← z]; exact hD1)
      have m2 : D1 ≠ ca := fun z => hA3.there.2 (by rw [← z]; exact hD1)
      refine lw_range (n := ((per : Int)).toNat) (fun i H' => Ks (fun x => x = hd) H3 H' ∧ HandAt H' hd ca ∧ ∃ ls lasts, H' D1 = some (.lst ls) ∧ Paired (TI H') ls lasts ∧ lasts.length = i ∧ ∀ r ∈ lasts, (∀ k ∈ r, 0 ≤ k ∧ k < c) ∧ r.Pairwise (· < ·) ∧ r.length ≤ 4) ⟨(Ke.new hD1).ks, hA3.ke (Ke.new hD1), [], [], upd_same, .nil, rfl, (fun _ z => by cases z)⟩ ?_ ?_
      · rintro i H4 hi ⟨k4, hA4, ls, lasts, hD14, pls, ll, okl⟩
        refine ⟨rfl, _, rfl, ua, _, 2, _, rfl, rfl, SqT.of (k4.tup _ _ hu3), rfl, c, rfl, by omega, by omega, fun D2 hD2 => ?_⟩
        have m3 : D2 ≠ hd := fun z => hA4.there.1 (by rw [← z]; exact hD2)
        have m4 : D2 ≠ ca := fun z => hA4.there.2 (by rw [← z]; exact hD2)
        refine lw_range (n := c.toNat) (fun j H' => Ks (fun x => x = hd) H4 H' ∧ HandAt H' hd ca ∧ ∃ ms : List Int, H' D2 = some (.lst (ms.map V.int)) ∧ ms.Pairwise (· < ·) ∧ (∀ k ∈ ms, 0 ≤ k ∧ k < j) ∧ ms.length ≤ j) ⟨(Ke.new hD2).ks, hA4.ke (Ke.new hD2), [], upd_same, .nil, (fun _ z => nomatch z), Nat.le_refl _⟩ ?_ ?_
        · rintro j H5 hj ⟨k5, hA5, ms, hD5, asc, rg, lms⟩
          have app : ∀ H6, Ks (fun x => x = hd) H5 H6 → HandAt H6 hd ca → ∃ acc, H6 D2 = some (.lst acc) ∧ acc.length < sizeLine ∧ (Ks (fun x => x = hd) H4 (upd H6 D2 (.lst (acc ++ [.int (0 + (j : Int))]))) ∧ HandAt (upd H6 D2 (.lst (acc ++ [.int (0 + (j : Int))]))) hd ca ∧ ∃ ms : List Int, (upd H6 D2 (.lst (acc ++ [.int (0 + (j : Int))]))) D2 = some (.lst (ms.map V.int)) ∧ ms.Pairwise (· < ·) ∧ (∀ k ∈ ms, 0 ≤ k ∧ k < ((j + 1 : Nat) : Int)) ∧ ms.length ≤ j + 1) := fun H6 k6 hA6 => by
            have hD6 := k6.keep _ _ m3 hD5
            refine ⟨_, hD6, by rw [List.length_map, sizeLine_eq]; omega, (k5.trans k6).mutNew hD2, hA6.mut m3 m4, ms ++ [(j : Int)], by rw [upd_same]; simp, ?_, fun x hx => ?_, by rw [List.length_append]; simp; omega⟩
            · rw [List.pairwise_append]
              exact ⟨asc, by simp, fun x hx y hy => by rw [List.mem_singleton.mp hy]; exact (rg x hx).2⟩
            · rcases List.mem_append.mp hx with z | z
              · have := rg x z; omega
              · rw [List.mem_singleton.mp z]; omega
          refine ⟨rfl, _, rfl, rfl, _, rfl, ?_⟩
          by_cases j0 : j = 0
          · refine iteT' (decide_eq_true (by rw [j0]; rfl)) (iteT' rfl ⟨_, rfl, app H5 .refl hA5⟩)
          · refine iteF' (fun z => j0 (by have z' := of_decide_eq_true z; injection z' with z'; omega)) ⟨_, rfl, hd, ca, 2, rfl, hA5, ⟨by decide, by decide⟩, fun r H6 _ _ k6 hA6 => ⟨rfl, _, rfl, ?_⟩⟩
            by_cases r0 : r = 0
            · exact iteT' (decide_eq_true (by rw [r0])) ⟨_, rfl, app H6 k6 hA6⟩
            · exact iteF' (fun z => r0 (by have z' := of_decide_eq_true z; injection z')) ⟨k5.trans k6, hA6, ms, k6.keep _ _ m3 hD5, asc, fun x hx => by have := rg x hx; omega, by omega⟩
        · rintro H5 ⟨k5, hA5, ms, hD5, asc, rg, lms⟩
          have hD15 := k5.keep _ _ m1 hD14
          refine ⟨D2, _, rfl, .inl ⟨SqL.of hD5, fun t ht => ?_⟩⟩
          have kt : Ke H5 (upd H5 t (.tup (ms.map V.int))) := Ke.new ht
          have ht6 : (upd H5 t (.tup (ms.map V.int))) t = some (.tup (ms.map V.int)) := upd_same
          generalize upd H5 t (.tup (ms.map V.int)) = H6 at kt ht6 ⊢
          have hD16 := kt.at hD15
          have txp : Tx H6 (upd H6 D1 (.lst (ls ++ [.ref t]))) := put_tx hD16 (fun _ z => nomatch z)
          have lls := plen pls
          refine ⟨ls, hD16, by rw [sizeLine_eq]; rw [Int.toNat_natCast] at hi; omega, ((k4.trans k5).trans kt.ks).mutNew hD1, (hA5.ke kt).mut m1 m2, _, lasts ++ [ms], upd_same, papp (pimp (fun v x r => TI.stb _ _ v x ((k5.tx.trans kt.tx).trans txp) r) pls) (.cons ⟨t, rfl, txp.tup _ _ ht6⟩ .nil), by rw [List.length_append, ll]; rfl, fun r hr => ?_⟩
          rcases List.mem_append.mp hr with z | z
          · exact okl r z
          · rw [List.mem_singleton.mp z]
            exact ⟨fun k hk => by have := rg k hk; omega, asc, by omega⟩
      · rintro H4 ⟨k4, hA4, ls, lasts, hD14, pls, ll, okl⟩
        rw [Int.toNat_natCast] at ll
        refine stepN ?_
        dsimp only
        refine ⟨_, rfl, hd, ca, 3, rfl, hA4, ⟨by decide, by decide⟩, fun rr H5 _ _ k5 hA5 => ⟨rfl, stepN ?_⟩⟩
        dsimp only
        generalize decide (V.int rr = V.int 0) = rs
        have k35 := k4.trans k5
        have htl5 := k35.keep _ _ tl1 htl3
        have pt5 : Paired (InnL (fun x => x = hd) H5) ws told := pimp (fun v x r => InnL.ks k35 r) pt
        have hD15 := k5.keep _ _ m1 hD14
        have pls5 : Paired (TI H5) ls lasts := pimp (fun v x r => TI.stb _ _ v x k5.tx r) pls
        have hu5 := k35.tup _ _ hu3
        have k05 := k3.trans k35
        refine ⟨by decide, fun mm hmm => stepN ?_⟩
        dsimp only
        refine ⟨_, rfl, (many : Int), rfl, by omega, by omega, for_range (n := ((many : Int)).toNat) (fun i σ H' => (∃ s5 s9 s10 s11 s12, σ = [some (.ref hd), some (.ref ua), some (.int many), some (.int per), some (.ref tl), s5, some (.ref D1), some (.bl rs), some (.ref mm), s9, s10, s11, s12]) ∧ Ke H5 H' ∧ ∃ mws mv, H' mm = some (.lst mws) ∧ Paired (TT TI H') mws mv ∧ mv.length = i ∧ ∀ row ∈ mv, RowOk [a, b, c] many row ∧ (row.Pairwise fun m m' => m.take 3 ≠ m'.take 3) ∧ row.length ≤ 4)
          ⟨⟨_, _, _, _, _, rfl⟩, Ke.new hmm, [], [], upd_same, .nil, rfl, (fun r z => by cases z)⟩ ?_ ?_⟩
        · rintro i σ H6 hi ⟨⟨s5, s9, s10, s11, s12, rfl⟩, k6, mws, mv, hmm6, pm6, lm, okm⟩
          rw [Int.toNat_natCast] at hi
          obtain ⟨tr, htr⟩ : ∃ r, told[i % per]? = some r := ⟨_, List.getElem?_eq_getElem (by rw [lt]; exact Nat.mod_lt _ (by omega))⟩
          obtain ⟨ltr, okr⟩ := okt tr (List.mem_of_getElem? htr)
          obtain ⟨tv, htv, al, avs, rfl, nal, hal, pal⟩ := pget pt5 htr
          refine ⟨by decide, fun rl hrl => stepN ?_⟩
          dsimp only
          refine ⟨_, rfl, ua, _, 0, _, rfl, rfl, SqT.of ((k6.trans (Ke.new hrl)).at hu5), rfl, a, rfl, by omega, by omega, for_range (n := a.toNat) (fun j σ H' => (∃ s10 s11 s12, σ = [some (.ref hd), some (.ref ua), some (.int many), some (.int per), some (.ref tl), some (.int (0 + (i : Int))), some (.ref D1), some (.bl rs), some (.ref mm), some (.ref rl), s10, s11, s12]) ∧ Ke H6 H' ∧ ∃ rws row, H' rl = some (.lst rws) ∧ Paired (TI H') rws row ∧ row.length = j ∧ RingR b c many j row)
            ⟨⟨_, _, _, rfl⟩, Ke.new hrl, [], [], upd_same, .nil, rfl, ⟨(fun m z => by cases z), .nil, .nil⟩⟩ ?_ ?_⟩
          · rintro j σ H7 hj ⟨⟨s10, s11, s12, rfl⟩, k7, rws, row, hrl7, prw, lr, okw⟩
            have k57 := k6.trans k7
            obtain ⟨tp, htp⟩ : ∃ r, tr[j]? = some r := ⟨_, List.getElem?_eq_getElem (by omega)⟩
            obtain ⟨y, z, rfl, hy, hz⟩ := okr tp (List.mem_of_getElem? htp)
            obtain ⟨pv, hpv, pa, rfl, hpa⟩ := pget pal htp
            have g0 : 0 ≤ (0 + (i : Int) + 1) % (many : Int) := Int.emod_nonneg _ (by omega)
            have g1 : (0 + (i : Int) + 1) % (many : Int) < many := Int.emod_lt_of_pos _ (by omega)
            refine ⟨_, rfl, _, _, rfl, rfl, .inl ⟨_, rfl, _, rfl, _, _, rfl, rfl, by omega, stepN ?_⟩⟩
            dsimp only
            generalize (0 + (i : Int) + 1) % (many : Int) = gl at g0 g1 ⊢
            refine seqJI (fun σ H' => (∃ g s12, σ = [some (.ref hd), some (.ref ua), some (.int many), some (.int per), some (.ref tl), some (.int (0 + (i : Int))), some (.ref D1), some (.bl rs), some (.ref mm), some (.ref rl), some (.int (0 + (j : Int))), some (.int g), s12] ∧ 0 ≤ g ∧ g < many) ∧ H' = H7) (fun nx hnx => ?_) ?_
            · refine ⟨_, rfl, rs, rfl, ?_⟩
              cases rs with
              | false => exact iteF' (fun z => by cases z) (iteF' (fun z => by cases z) (stepT (hnx _ _ ⟨⟨gl, _, rfl, g0, g1⟩, rfl⟩)))
              | true =>
                refine iteT' rfl ⟨_, rfl, rfl, _, rfl, ite2 (fun _ => ?_) (fun _ => ?_)⟩
                · refine stepN (hnx _ _ ⟨⟨0, _, rfl, by omega, by omega⟩, rfl⟩)
                · exact stepT (hnx _ _ ⟨⟨gl, _, rfl, g0, g1⟩, rfl⟩)
            · rintro σ H7' ⟨⟨g, s12', rfl, g0, g1⟩, rfl⟩
              refine ⟨_, rfl, .inl ⟨rfl, _, SqL.of hrl7⟩, _, rfl, (by show 1 ≤ sizeLine; decide), fun t1 ht1 => ?_⟩
              have kt1 : Ke H7' (upd H7' t1 (.tup [.int (0 + (j : Int))])) := Ke.new ht1
              have ht18 : (upd H7' t1 (.tup [.int (0 + (j : Int))])) t1 = some (.tup [.int (0 + (j : Int))]) := upd_same
              generalize upd H7' t1 (.tup [.int (0 + (j : Int))]) = H8 at kt1 ht18 ⊢
              have k58 := k57.trans kt1
              refine ⟨_, rfl, _, rfl, .inl ⟨_, rfl, _, rfl, _, _, rfl, rfl, by omega, tl, _, _, _, rfl, rfl, SqL.of (k58.at htl5), atI_nat htv (mod_nat i per), _, rfl, al, _, _, _, rfl, rfl, SqL.of (k58.at hal), atI_nat hpv (Int.zero_add _), ?_⟩⟩
              refine cat_row (xs := [(0 + (j : Int))]) (ys := [y, z]) II.stb (TI.tt.mp ⟨t1, rfl, ht18⟩) (TI.tt.mp ⟨pa, rfl, k58.at hpa⟩) (by show 1 + 2 < 2000000; decide) fun v1 H9 k9 hv1 => ?_
              refine ⟨_, rfl, (by show 1 ≤ sizeLine; decide), fun t2 ht2 => ?_⟩
              refine cat_row (ys := [g]) II.stb (TT.stb II.stb _ _ _ _ (Ke.new ht2).tx hv1) (TI.tt.mp ⟨t2, rfl, upd_same⟩) (by show 3 + 1 < 2000000; decide) fun v2 H10 k10 hv2 => ?_
              have k710 := ((kt1.trans k9).trans (Ke.new ht2)).trans k10
              have hrl10 := k710.at hrl7
              have txp : Tx H10 (upd H10 rl (.lst (rws ++ [v2]))) := put_tx hrl10 (fun _ z => nomatch z)
              have lrws := plen prw
              have hv3 : TI H10 v2 [(j : Int), y, z, g] := by
                have := TI.tt.mpr hv2
                rw [Int.zero_add] at this
                exact this
              refine ⟨rl, rws, _, rfl, rfl, hrl10, by rw [sizeLine_eq]; omega, ⟨_, _, _, rfl⟩, (k7.trans k710).mutNew hrl, _, row ++ [[(j : Int), y, z, g]], upd_same, papp (pimp (fun v x r => TI.stb _ _ v x (k710.tx.trans txp) r) prw) (.cons (TI.stb _ _ _ _ txp hv3) .nil), by rw [List.length_append, lr]; rfl, ?_⟩
              have := okw.snoc (by omega : (0 : Int) ≤ (j : Int)) hy hz ⟨g0, g1⟩
              have ej : (((j + 1 : Nat)) : Int) = (j : Int) + 1 := by omega
              rw [ej]; exact this
          · rintro σ H7 ⟨⟨s10, s11, s12, rfl⟩, k7, rws, row, hrl7, prw, lr, okw⟩
            have ea : ((a.toNat : Nat) : Int) = a := by omega
            rw [ea] at okw
            have hmm7 := k7.at hmm6
            refine ⟨_, rfl, .inl ⟨rfl, _, SqL.of hmm7⟩, _, rfl, rl, rws, rfl, .inl ⟨SqL.of hrl7, fun t ht => ?_⟩⟩
            have kt : Ke H7 (upd H7 t (.tup rws)) := Ke.new ht
            have ht8 : (upd H7 t (.tup rws)) t = some (.tup rws) := upd_same
            generalize upd H7 t (.tup rws) = H8 at kt ht8 ⊢
            have hmm8 := kt.at hmm7
            have txp : Tx H8 (upd H8 mm (.lst (mws ++ [.ref t]))) := put_tx hmm8 (fun _ z => nomatch z)
            have lmw := plen pm6
            refine ⟨mm, mws, _, rfl, rfl, hmm8, by rw [sizeLine_eq]; omega, ⟨_, _, _, _, _, rfl⟩, ((k6.trans k7).trans kt).mutNew hmm, _, mv ++ [row], upd_same, papp (pimp (fun v x r => TT.stb TI.stb _ _ v x ((k7.trans kt).tx.trans txp) r) pm6) (.cons ⟨t, rws, rfl, txp.tup _ _ ht8, pimp (fun v x r => TI.stb _ _ v x (kt.tx.trans txp) r) prw⟩ .nil), by rw [List.length_append, lm]; rfl, fun r hr => ?_⟩
            rcases List.mem_append.mp hr with q | q
            · exact okm r q
            · rw [List.mem_singleton.mp q]
              exact ⟨okw.row (by omega), okw.det, by omega⟩
        · rintro σ H6 ⟨⟨s5, s9, s10, s11, s12, rfl⟩, k6, mws, mv, hmm6, pm6, lm, okm⟩
          rw [Int.toNat_natCast] at lm
          refine ⟨_, rfl, _, rfl, mm, mws, rfl, .inl ⟨SqL.of hmm6, fun tm htm => ?_⟩⟩
          have k7 : Ke H6 (upd H6 tm (.tup mws)) := Ke.new htm
          have htm7 : (upd H6 tm (.tup mws)) tm = some (.tup mws) := upd_same
          generalize upd H6 tm (.tup mws) = H7 at k7 htm7 ⊢
          have k57 := k6.trans k7
          refine ⟨_, rfl, (many : Int), rfl, by omega, by omega, fun D hD => ?_⟩
          refine lw_range (n := ((many : Int)).toNat) (fun q H' => Ke H7 H' ∧ ∃ cws cl, H' D = some (.lst cws) ∧ Paired (TI H') cws cl ∧ cl.length = q ∧ ∀ r ∈ cl, (∀ k ∈ r, 0 ≤ k ∧ k < c) ∧ r.Pairwise (· < ·) ∧ r.length ≤ 4) ⟨Ke.new hD, [], [], upd_same, .nil, rfl, (fun r z => by cases z)⟩ ?_ ?_
          · rintro q H8 hq ⟨k8, cws, cl, hD8, pc, lc, okc⟩
            rw [Int.toNat_natCast] at hq
            obtain ⟨lr, hlr⟩ : ∃ r, lasts[q % per]? = some r := ⟨_, List.getElem?_eq_getElem (by rw [ll]; exact Nat.mod_lt _ (by omega))⟩
            obtain ⟨lv, hlv, hlt⟩ := pget pls5 hlr
            have k58 := k57.trans k8
            have txp : Tx H8 (upd H8 D (.lst (cws ++ [lv]))) := put_tx hD8 (fun _ z => nomatch z)
            have lcw := plen pc
            refine ⟨rfl, _, rfl, _, rfl, .inl ⟨_, rfl, _, rfl, _, _, rfl, rfl, by omega, D1, _, _, _, rfl, rfl, SqL.of (k58.at hD15), atI_nat hlv (mod_nat q per), cws, hD8, by rw [sizeLine_eq]; omega, k8.mutNew hD, _, cl ++ [lr], upd_same, papp (pimp (fun v x r => TI.stb _ _ v x txp r) pc) (.cons (TI.stb _ _ _ _ (k58.tx.trans txp) hlt) .nil), by rw [List.length_append, lc]; rfl, fun r hr => ?_⟩⟩
            rcases List.mem_append.mp hr with z | z
            · exact okc r z
            · rw [List.mem_singleton.mp z]; exact okl lr (List.mem_of_getElem? hlr)
          · rintro H8 ⟨k8, cws, cl, hD8, pc, lc, okc⟩
            rw [Int.toNat_natCast] at lc
            refine ⟨D, cws, rfl, .inl ⟨SqL.of hD8, fun tc htc => ?_⟩⟩
            have k9 : Ke H8 (upd H8 tc (.tup cws)) := Ke.new htc
            have htc9 : (upd H8 tc (.tup cws)) tc = some (.tup cws) := upd_same
            generalize upd H8 tc (.tup cws) = H9 at k9 htc9 ⊢
            have k59 := (k57.trans k8).trans k9
            have gd : Good [a, b, c] mv cl := by
              refine ⟨⟨rfl, fun x hx => ?_⟩, ⟨by omega, by omega, fun r hr => ?_⟩, ⟨by omega, fun r hr => ?_⟩⟩
              · simp only [List.mem_cons, List.mem_nil_iff, or_false] at hx
                rcases hx with rfl | rfl | rfl <;> omega
              · rw [lm]; exact (okm r hr).1
              · obtain ⟨h1, h2, h3⟩ := okc r hr
                exact ⟨fun k hk => ⟨a, b, c, rfl, by have := h1 k hk; omega⟩, h2, by omega⟩
            refine mk_off (hA5.ke k59) ⟨ua, rfl, k59.at hu5⟩ ⟨tm, mws, rfl, (k8.trans k9).at htm7, pimp (fun v x r => TT.stb TI.stb _ _ v x ((k7.trans k8).trans k9).tx r) pm6⟩ ⟨tc, cws, rfl, htc9, pimp (fun v x r => TI.stb _ _ v x k9.tx r) pc⟩ gd fun q H10 k10 hA10 of10 => ?_
            exact k q ⟨[a, b, c], mv, cl⟩ H10 rfl gd (fun r hr => (okm r hr).2.1) (fun r hr => by have := (okm r hr).2.2; omega) ((k05.trans k59.ks).trans k10) hA10 of10
end
end Fd
set_option Elab.async false
set_option linter.all false
set_option maxRecDepth 100000
set_option maxHeartbeats 4000000
namespace Fd
open PySem PySem.Spec PyProof.Rows L2
def sp_ltwo (K : PySem.W.Frag) (C : Addr) : Sp := fun xs H Q _ => ∃ hd ca, xs = [.ref hd] ∧ HandAt H hd ca ∧ OC K C ∧
  ∀ t p1 p2 (o1 o2 : Ofc) H', Two2 o1 o2 → Ks (fun x => x = hd) H H' → HandAt H' hd ca → Stands C hd H' p1 o1 → Stands C hd H' p2 o2 → H' t = some (.tup [.ref p1, .ref p2]) → Q (.ref t) H'
section
variable {P : Program} {w : World} {K : PySem.W.Frag} {mg : Str → Option Value} {base : Heap} (T : Txt K mg)
include T
theorem ok_l_two : FnOk P w K mg base CX0 8 T.a_l_two T.d_l_two P_l_two (sp_ltwo K T.a_Office) := by
  refine T.F_l_two.ok sc_l_two (fun vs H Q E h => ?_) (fun cdv A outer s H vs Q E hr h => ?_)
  · obtain ⟨hd, ca, rfl, _⟩ := h; rfl
  · obtain ⟨hd, ca, rfl, hA, oc, k⟩ := h
    refine ⟨_, (pss_cons (ps_set (i := 1) sc_l_two.nd rfl (Or.inl rfl) (pe_call (ok_l_draw T) (hr.mono (by decide)) rfl T.g_l_draw T.k_l_draw T.b_l_draw .nil pass0 (pa_cons (pv 0) (pa_cons pe_int pa_nil))))
  (pss_cons (ps_set (i := 2) sc_l_two.nd rfl (Or.inl rfl) (pe_call (ok_l_sizes T) (hr.mono (by decide)) rfl T.g_l_sizes T.k_l_sizes T.b_l_sizes .nil pass0 (pa_cons (pv 0) (pa_cons pe_int pa_nil))))
  (pss_cons (ps_if (pt_cmpR op_eq (pv 1) pe_int (nomark _)) (pss_one (ps_set (i := 2) sc_l_two.nd rfl (Or.inl rfl) (pe_ix ix_list (pe_lst (pa_cons (pe_tup (pa_cons pe_int (pa_cons pe_int (pa_cons pe_int pa_nil)))) (pa_cons (pe_tup (pa_cons pe_int (pa_cons pe_int (pa_cons pe_int pa_nil)))) (pa_cons (pe_tup (pa_cons pe_int (pa_cons pe_int (pa_cons pe_int pa_nil)))) (pa_cons (pe_tup (pa_cons pe_int (pa_cons pe_int (pa_cons pe_int pa_nil)))) pa_nil))))) (pe_call (ok_l_draw T) (hr.mono (by decide)) rfl T.g_l_draw T.k_l_draw T.b_l_draw .nil pass0 (pa_cons (pv 0) (pa_cons pe_int pa_nil))) (fun _ _ => rfl)))) pss_nil)
  (pss_cons (ps_set (i := 3) sc_l_two.nd rfl (Or.inl rfl) (pe_call (ok_l_office T) (hr.mono (by decide)) rfl T.g_l_office T.k_l_office T.b_l_office .nil pass0 (pa_cons (pv 0) (pa_cons (pv 2) (pa_cons pe_int pa_nil)))))
  (pss_cons (ps_if (pt_cmpR op_lt (pv 1) pe_int (nomark _)) (pss_one (ps_set (i := 3) sc_l_two.nd rfl (Or.inl rfl) (pe_call (ok_l_ring_office T) (hr.mono (by decide)) rfl T.g_l_ring_office T.k_l_ring_office T.b_l_ring_office .nil pass0 (pa_cons (pv 0) (pa_cons (pv 2) pa_nil))))) pss_nil)
  (pss_cons (ps_set (i := 4) sc_l_two.nd rfl (Or.inl rfl) (pe_call (ok_l_changed T) (hr.mono (by decide)) rfl T.g_l_changed T.k_l_changed T.b_l_changed .nil pass0 (pa_cons (pv 0) (pa_cons (pv 3) pa_nil))))
  (pss_cons (ps_if (PW.pt (pw_and (pt_cmpR op_eq (pe_call (ok_l_draw T) (hr.mono (by decide)) rfl T.g_l_draw T.k_l_draw T.b_l_draw .nil pass0 (pa_cons (pv 0) (pa_cons pe_int pa_nil))) pe_int (nomark _)) (pw_and1 (pt_cmpR op_gt (pv 1) pe_int (nomark _))))) (pss_one (ps_set (i := 4) sc_l_two.nd rfl (Or.inl rfl) (pe_call (ok_l_office T) (hr.mono (by decide)) rfl T.g_l_office T.k_l_office T.b_l_office .nil pass0 (pa_cons (pv 0) (pa_cons (pv 2) (pa_cons pe_int pa_nil)))))) pss_nil)
  (pss_one (ps_ret (pe_tup (pa_cons (pv 3) (pa_cons (pv 4) pa_nil)))))))))))), ?_⟩
    refine ⟨_, rfl, hd, ca, 12, rfl, hA, ⟨by decide, by decide⟩, fun kd H1 kd0 kd1 k1 hA1 => stepN ?_⟩
    dsimp only
    refine ⟨_, rfl, hd, ca, 2, rfl, hA1, ⟨by decide, by decide⟩, fun u0 a0 b0 c0 H2 ra rb rc k2 hA2 hu0 => stepN ?_⟩
    dsimp only
    have k02 := k1.trans k2
    refine seqJI (fun σ H' => (∃ u a b c s3 s4, σ = [some (.ref hd), some (.int kd), some u, s3, s4] ∧ TI H' u [a, b, c] ∧ (1 ≤ a ∧ a ≤ 4) ∧ (1 ≤ b ∧ b ≤ 4) ∧ (1 ≤ c ∧ c ≤ 4)) ∧ Ks (fun x => x = hd) H H' ∧ HandAt H' hd ca) (fun nx hnx => ?_) ?_
    · refine ⟨_, rfl, rfl, _, rfl, ite2 (fun _ => ?_) (fun _ => stepT (hnx _ _ ⟨⟨u0, a0, b0, c0, _, _, rfl, hu0, by omega, by omega, by omega⟩, k02, hA2⟩))⟩
      refine ⟨(by show 3 ≤ sizeLine; decide), fun t1 h1 => ⟨(by show 3 ≤ sizeLine; decide), fun t2 h2 => ⟨(by show 3 ≤ sizeLine; decide), fun t3 h3 => ⟨(by show 3 ≤ sizeLine; decide), fun t4 h4 => ⟨(by show 4 ≤ sizeLine; decide), fun l hl => ?_⟩⟩⟩⟩⟩
      have e1 : Ke H2 (upd H2 t1 (.tup [.int 4, .int 1, .int 4])) := Ke.new h1
      have g1 : (upd H2 t1 (.tup [.int 4, .int 1, .int 4])) t1 = some (.tup [.int 4, .int 1, .int 4]) := upd_same
      generalize upd H2 t1 (.tup [.int 4, .int 1, .int 4]) = J1 at e1 g1 h2 h3 h4 hl ⊢
      have e2 : Ke J1 (upd J1 t2 (.tup [.int 1, .int 4, .int 4])) := Ke.new h2
      have g2 : (upd J1 t2 (.tup [.int 1, .int 4, .int 4])) t2 = some (.tup [.int 1, .int 4, .int 4]) := upd_same
      generalize upd J1 t2 (.tup [.int 1, .int 4, .int 4]) = J2 at e2 g2 h3 h4 hl ⊢
      have e3 : Ke J2 (upd J2 t3 (.tup [.int 4, .int 4, .int 1])) := Ke.new h3
      have g3 : (upd J2 t3 (.tup [.int 4, .int 4, .int 1])) t3 = some (.tup [.int 4, .int 4, .int 1]) := upd_same
      generalize upd J2 t3 (.tup [.int 4, .int 4, .int 1]) = J3 at e3 g3 h4 hl ⊢
      have e4 : Ke J3 (upd J3 t4 (.tup [.int 3, .int 3, .int 3])) := Ke.new h4
      have g4 : (upd J3 t4 (.tup [.int 3, .int 3, .int 3])) t4 = some (.tup [.int 3, .int 3, .int 3]) := upd_same
      generalize upd J3 t4 (.tup [.int 3, .int 3, .int 3]) = J4 at e4 g4 hl ⊢
      have e5 : Ke J4 (upd J4 l (.lst [.ref t1, .ref t2, .ref t3, .ref t4])) := Ke.new hl
      have g5 : (upd J4 l (.lst [.ref t1, .ref t2, .ref t3, .ref t4])) l = some (.lst [.ref t1, .ref t2, .ref t3, .ref t4]) := upd_same
      generalize upd J4 l (.lst [.ref t1, .ref t2, .ref t3, .ref t4]) = J5 at e5 g5 ⊢
      have e25 := (((e1.trans e2).trans e3).trans e4).trans e5
      have hA5 := hA2.ke e25
      have nl : l ≠ hd := fun z => by
        have := e25.free (p := l)
        have h0 : H2 l = none := ((((e1.trans e2).trans e3).trans e4)).free hl
        exact hA2.there.1 (by rw [← z]; exact h0)
      refine ⟨_, rfl, hd, ca, 4, rfl, hA5, ⟨by decide, by decide⟩, fun r H6 r0 r1 k6 hA6 => ?_⟩
      have g6 := k6.keep _ _ nl g5
      have k06 := (k02.trans e25.ks).trans k6
      rcases (by omega : r = 0 ∨ r = 1 ∨ r = 2 ∨ r = 3) with rfl | rfl | rfl | rfl
      · exact ⟨l, _, 0, _, rfl, rfl, SqL.of g6, rfl, stepN (hnx _ _ ⟨⟨_, 4, 1, 4, _, _, rfl, ⟨t1, rfl, k6.tup _ _ ((((e2.trans e3).trans e4).trans e5).at g1)⟩, by decide, by decide, by decide⟩, k06, hA6⟩)⟩
      · exact ⟨l, _, 1, _, rfl, rfl, SqL.of g6, rfl, stepN (hnx _ _ ⟨⟨_, 1, 4, 4, _, _, rfl, ⟨t2, rfl, k6.tup _ _ (((e3.trans e4).trans e5).at g2)⟩, by decide, by decide, by decide⟩, k06, hA6⟩)⟩
      · exact ⟨l, _, 2, _, rfl, rfl, SqL.of g6, rfl, stepN (hnx _ _ ⟨⟨_, 4, 4, 1, _, _, rfl, ⟨t3, rfl, k6.tup _ _ ((e4.trans e5).at g3)⟩, by decide, by decide, by decide⟩, k06, hA6⟩)⟩
      · exact ⟨l, _, 3, _, rfl, rfl, SqL.of g6, rfl, stepN (hnx _ _ ⟨⟨_, 3, 3, 3, _, _, rfl, ⟨t4, rfl, k6.tup _ _ (e5.at g4)⟩, by decide, by decide, by decide⟩, k06, hA6⟩)⟩
    · rintro σ H3 ⟨⟨u, a, b, c, s3, s4, rfl, hu, ha, hb, hc⟩, k3, hA3⟩
      refine ⟨_, rfl, _, rfl, hd, ca, u, a, b, c, 3, rfl, hA3, hu, ha, hb, hc, ⟨by decide, by decide⟩, fun p1 o1 H4 z1 gd1 l1 rows1 _ k4 hA4 of1 => stepN ?_⟩
      dsimp only
      have hu4 := TI.stb _ _ _ _ k4.tx hu
      have k04 := k3.trans k4
      refine seqJI (fun σ H' => (∃ p1 o1 s4, σ = [some (.ref hd), some (.int kd), some u, some (.ref p1), s4] ∧ Stands T.a_Office hd H' p1 o1 ∧ o1.sz = [a, b, c] ∧ Gd o1 ∧ (∀ r ∈ o1.mv, r.length ≤ 10) ∧ ((kd < 3 ∧ Det o1) ∨ (3 ≤ kd ∧ o1.mv.length ≤ 3))) ∧ Ks (fun x => x = hd) H H' ∧ HandAt H' hd ca ∧ TI H' u [a, b, c]) (fun nx hnx => ?_) ?_
      · refine ⟨_, rfl, _, _, rfl, rfl, _, rfl, ite2 (fun z => ?_) (fun z => stepT (hnx _ _ ⟨⟨p1, o1, _, rfl, of1, z1, gd1, fun r hr => by have := (rows1 r hr).2; omega, .inr ⟨by have := of_decide_eq_false (Bool.eq_false_iff.mpr z); omega, by omega⟩⟩, k04, hA4, hu4⟩))⟩
        refine ⟨_, rfl, _, rfl, hd, ca, u, a, b, c, rfl, hA4, hu4, ha, hb, hc, fun p o H5 zo gdo deto l10 k5 hA5 of5 => stepN (hnx _ _ ⟨⟨p, o, _, rfl, of5, zo, gdo, l10, .inl ⟨of_decide_eq_true z, deto⟩⟩, k04.trans k5, hA5, TI.stb _ _ _ _ k5.tx hu4⟩)⟩
      · rintro σ H5 ⟨⟨p1, o1, s4, rfl, of1, z1, gd1, l10, kind⟩, k5, hA5, hu5⟩
        refine ⟨_, rfl, _, rfl, hd, ca, p1, o1, rfl, hA5, oc, of1, gd1, l10, fun p2 o2 H6 z2 gd2 len2 det2 k6 hA6 of2 => stepN ?_⟩
        dsimp only
        have two : Two2 o1 o2 := by
          rcases kind with ⟨_, d⟩ | ⟨_, l⟩
          · exact two_det gd1 gd2 z2.symm d (det2 d)
          · exact two_small gd1 gd2 z2.symm (by omega) (by omega)
        have k06 := k5.trans k6
        refine seqJI (fun σ H' => (∃ p2 o2, σ = [some (.ref hd), some (.int kd), some u, some (.ref p1), some (.ref p2)] ∧ Stands T.a_Office hd H' p1 o1 ∧ Stands T.a_Office hd H' p2 o2 ∧ Two2 o1 o2) ∧ Ks (fun x => x = hd) H H' ∧ HandAt H' hd ca) (fun nx hnx => ?_) ?_
        · refine ⟨_, rfl, hd, ca, 3, rfl, hA6, ⟨by decide, by decide⟩, fun r H7 r0 r1 k7 hA7 => ⟨rfl, _, rfl, ?_⟩⟩
          by_cases q : r = 0
          · refine iteT' (decide_eq_true (by rw [q])) ⟨_, rfl, _, _, rfl, rfl, _, rfl, ite2 (fun z => ?_) (fun _ => stepT (hnx _ _ ⟨⟨p2, o2, rfl, (of1.ks k6).ks k7, of2.ks k7, two⟩, k06.trans k7, hA7⟩))⟩
            have hk := of_decide_eq_true z
            have k57 := k6.trans k7
            refine ⟨_, rfl, _, rfl, hd, ca, u, a, b, c, 3, rfl, hA7, TI.stb _ _ _ _ k57.tx hu5, ha, hb, hc, ⟨by decide, by decide⟩, fun p3 o3 H8 z3 gd3 l3 _ _ k8 hA8 of3 => stepN (hnx _ _ ⟨⟨p3, o3, rfl, of1.ks (k57.trans k8), of3, ?_⟩, (k06.trans k7).trans k8, hA8⟩)⟩
            rcases kind with ⟨z, _⟩ | ⟨_, l⟩
            · omega
            · exact two_small gd1 gd3 (z1.trans z3.symm) (by omega) (by omega)
          · exact iteF' (fun z => q (by have z' := of_decide_eq_true z; injection z')) (iteF' (fun z => by cases z) (stepT (hnx _ _ ⟨⟨p2, o2, rfl, (of1.ks k6).ks k7, of2.ks k7, two⟩, k06.trans k7, hA7⟩)))
        · rintro σ H7 ⟨⟨p2, o2, rfl, of1, of2, two⟩, k7, hA7⟩
          refine ⟨_, rfl, _, rfl, (by show 2 ≤ sizeLine; decide), fun t ht => ?_⟩
          have kt : Ke H7 (upd H7 t (.tup [.ref p1, .ref p2])) := Ke.new ht
          exact k t p1 p2 o1 o2 _ two (k7.trans kt.ks) (hA7.ke kt) (of1.ks kt.ks) (of2.ks kt.ks) upd_same
end
end Fd
set_option Elab.async false
set_option linter.all false
set_option maxRecDepth 100000
set_option maxHeartbeats 4000000
/-! Days as data. -/
namespace Fd
open PySem PySem.Spec PyProof PyProof.Rows L2 PySem.W
def rReprO (K : Frag) : List V → Hp → VK → Prop := fun xs H Q => (xs = [.non] ∧ Q (.str "None") H) ∨ rReprD K xs H Q
theorem cr_reprO {X : Cx} {k : Nat} (hr : Room k X.A) (hg : X.A.guards = some []) : CallR X (.builtin "repr") (rReprO X.K) := by
  intro pins s σ H xs us Q I r h
  rcases h with ⟨rfl, q⟩ | h
  · obtain ⟨u, rfl, rx⟩ := vals1 r
    have e : u = Value.none := rx
    subst e
    exact PySem.P.repr_of_none ⟨.str "None", H, I.kept (h' := s.heap) (fun _ _ z => z), ⟨_, rfl⟩, q⟩
  · exact cr_reprD hr hg pins s σ H xs us Q I r h
/-! ### what may be laid -/
structure Ly (D : Nat) (d : PyData) : Prop where
  c : d.canLay0 = true
  d : d.depth ≤ D
theorem Ly.all {D : Nat} : ∀ {ds : List PyData}, (∀ d ∈ ds, Ly D d) → PyData.canLayAll0 ds = true ∧ PyData.depthAll ds ≤ D
  | [], _ => ⟨by simp [PyData.canLayAll0], by simp [PyData.depthAll]⟩
  | d :: ds, h => by
    have h1 := h d (by simp)
    obtain ⟨h2, h3⟩ := Ly.all (fun x hx => h x (by simp [hx]) : ∀ d ∈ ds, Ly D d)
    refine ⟨by rw [PyData.canLayAll0, h1.c, h2]; rfl, ?_⟩
    rw [PyData.depthAll]
    have := h1.d
    omega
theorem Ly.tup {D : Nat} {ds : List PyData} (h : ∀ d ∈ ds, Ly D d) : Ly (D + 1) (.tuple ds) := by
  obtain ⟨h2, h3⟩ := Ly.all h
  exact ⟨by rw [PyData.canLay0]; exact h2, by rw [PyData.depth]; omega⟩
theorem Ly.lst {D : Nat} {ds : List PyData} (h : ∀ d ∈ ds, Ly D d) : Ly (D + 1) (.list ds) := by
  obtain ⟨h2, h3⟩ := Ly.all h
  exact ⟨by rw [PyData.canLay0]; exact h2, by rw [PyData.depth]; omega⟩
theorem Ly.int {i : Int} : Ly 0 (.int i) := ⟨by rw [PyData.canLay0], by simp [PyData.depth]⟩
theorem Ly.non : Ly 0 .none := ⟨by rw [PyData.canLay0], by simp [PyData.depth]⟩
theorem Ly.mono {D D' : Nat} {d : PyData} (x : Ly D d) (h : D ≤ D') : Ly D' d := ⟨x.c, Nat.le_trans x.d h⟩
theorem Ly.shaped {D : Nat} {d : PyData} (x : Ly D d) (h : D ≤ 64) : SeqAt.shaped d = true := by
  unfold SeqAt.shaped
  rw [x.c, decide_eq_true (Nat.le_trans x.d h)]; rfl
theorem ly_tI (a : List Int) : Ly 1 (tI a) := Ly.tup fun d hd => by
  obtain ⟨x, _, rfl⟩ := List.mem_map.mp hd
  exact Ly.int
/-! ### days -/
def encW (w : Wrd) : PyData := .tuple (w.map tI)
def encD (d : Day) : PyData := .tuple [encW d.1, .int d.2]
def encO : Option Day → PyData
  | none => .none
  | some d => encD d
theorem DayR.encD : Enc DayR encD := fun K H v x h => by
  obtain ⟨t, w, e, ht, s⟩ := h
  rw [e]
  exact .tup (SqT.of ht) (.cons (TT.enc TI.enc K H w x.1 s) (.cons (.int _) .nil))
theorem DayO.dp {K : Frag} {H : Hp} {v : V} {r : Option Day} (h : DayO H v r) : Dp K H v (encO r) := by
  cases r with
  | none =>
    have e : v = .non := h
    rw [e]; exact .non
  | some d => exact DayR.encD K H v d h
theorem ly_day (d : Day) : Ly 3 (encD d) := Ly.tup fun e he => by
  simp only [List.mem_cons, List.mem_nil_iff, or_false] at he
  rcases he with rfl | rfl
  · exact Ly.tup fun e he => by
      obtain ⟨x, _, rfl⟩ := List.mem_map.mp he
      exact ly_tI x
  · exact Ly.int.mono (by decide)
theorem ly_O (r : Option Day) : Ly 3 (encO r) := by
  cases r with
  | none => exact Ly.non.mono (by decide)
  | some d => exact ly_day d
/-- the same day is not another -/
theorem ne_day {K : Frag} {H : Hp} {x y : V} {r : Option Day} {Q : VK} (h1 : DayO H x r) (h2 : DayO H y r) (q : Q (.bl false) H) : rNeD K x y H Q :=
  ⟨encO r, encO r, h1.dp, h2.dp, (ly_O r).shaped (by decide), (ly_O r).shaped (by decide), by
    have e : PyData.eqv (encO r) (encO r) = true := SeqAt.eqv_refl (encO r) (ly_O r).c
    rw [e]; exact q⟩
/-- nor are the same days -/
theorem ne_days {K : Frag} {H : Hp} {l l' : Addr} {ws ws' : List V} {ds : List Day} {Q : VK} (h1 : H l = some (.lst ws)) (p1 : Paired (DayR H) ws ds) (h2 : H l' = some (.lst ws')) (p2 : Paired (DayR H) ws' ds) (q : Q (.bl false) H) : rNeD K (.ref l) (.ref l') H Q := by
  have ly : Ly 4 (.list (ds.map encD)) := Ly.lst fun d hd => by
    obtain ⟨x, _, rfl⟩ := List.mem_map.mp hd
    exact ly_day x
  refine ⟨.list (ds.map encD), .list (ds.map encD), .lst (SqL.of h1) (dpAll_of DayR.encD p1), .lst (SqL.of h2) (dpAll_of DayR.encD p2), ly.shaped (by decide), ly.shaped (by decide), ?_⟩
  have e : PyData.eqv (.list (ds.map encD)) (.list (ds.map encD)) = true := SeqAt.eqv_refl _ ly.c
  rw [e]; exact q
/-- a day that repr may show -/
def DayOk (r : Option Day) : Prop := ∀ d, r = some d → d.1.length ≤ 500 ∧ (∀ st ∈ d.1, st.length ≤ 3 ∧ ∀ x ∈ st, x.natAbs < 1000000) ∧ d.2.natAbs < 1000000
theorem ro_day {d : Day} (h1 : d.1.length ≤ 500) (h2 : ∀ st ∈ d.1, st.length ≤ 3 ∧ ∀ x ∈ st, x.natAbs < 1000000) (h3 : d.2.natAbs < 1000000) : RO 3 (2 * 32001 + 1) (encD d) := RO.tup (fun e he => by
  simp only [List.mem_cons, List.mem_nil_iff, or_false] at he
  rcases he with rfl | rfl
  · refine RO.mono (RO.tup (n := 500) (W := 3 * 21 + 1) (D := 1) (fun e he => ?_) (by rw [List.length_map]; exact h1)) (Nat.le_refl _) (by decide)
    obtain ⟨x, hx, rfl⟩ := List.mem_map.mp he
    exact ro_I (h2 x hx).2 (h2 x hx).1
  · exact (RO.int h3).mono (by decide) (by decide)) (Nat.le_refl 2)
theorem repr_day {K : Frag} {H : Hp} {v : V} {r : Option Day} {Q : VK} (h : DayO H v r) (ok : DayOk r) (q : Q (.str (encO r).shown) H) : rReprO K [v] H Q := by
  cases r with
  | none =>
    have e : v = .non := h
    rw [e]; exact .inl ⟨rfl, q⟩
  | some d =>
    obtain ⟨h1, h2, h3⟩ := ok d rfl
    have ro := ro_day h1 h2 h3
    obtain ⟨t, w, e, ht, s⟩ := id h
    refine .inr ⟨t, encD d, by rw [e], ?_, ro.sh, ro.nd, Nat.le_trans ro.dp (by decide), ro.fits (by decide), q⟩
    rw [← e]; exact DayR.encD K H v d h
theorem dayOk_of {o1 o2 : Ofc} (g : Gd o1) {r : Option Day} (h : SD o1 o2 (stepsOf o1) (o1.sz.getD 2 0) r) (hl : ∀ d, r = some d → d.1.length < 500) : DayOk r := fun d e => by
  subst e
  obtain ⟨h1, h2, _⟩ := h
  obtain ⟨a, b, c, ez, ha, hb, hc⟩ := (good_wf g).sz
  refine ⟨Nat.le_of_lt (hl d rfl), fun st hst => ?_, ?_⟩
  · have hm := h1 st hst
    have es : stepsOf o1 = stepsM a b c := by unfold stepsOf; rw [ez]; rfl
    rw [es] at hm
    unfold stepsM at hm
    obtain ⟨y, hy, hm⟩ := List.mem_flatMap.mp hm
    obtain ⟨s, hs, hy⟩ := List.mem_flatMap.mp hy
    obtain ⟨n, hn, rfl⟩ := List.mem_map.mp hy
    obtain ⟨k, hk, rfl⟩ := List.mem_map.mp hm
    have hs := mem_ran.mp hs
    have hn := mem_ran.mp hn
    have hk := mem_ran.mp hk
    refine ⟨Nat.le_refl 3, fun x hx => ?_⟩
    have hx' : x ∈ [s, n, k] := hx
    simp only [List.mem_cons, List.mem_nil_iff, or_false] at hx'
    rcases hx' with rfl | rfl | rfl <;> omega
  · have := h2.1
    rw [ez] at this
    have h3 : d.2 < c := this.2
    omega
end Fd
set_option Elab.async false
set_option linter.all false
set_option maxRecDepth 100000
set_option maxHeartbeats 8000000
namespace Fd
open PySem PySem.Spec PyProof.Rows L2
def sp_law (K : PySem.W.Frag) : Sp := fun xs H Q _ => ∃ (a : Addr) (ns : List Int), xs = [.ref a] ∧ SqL K H a (ns.map V.int) ∧ ns.length ≤ 63 ∧ ∀ H', Q (.bl true) H'
theorem nilA {σ : L2.St} {H : Hp} {k : List V → Hp → Prop} (h : k [] H) : tNil σ H k := h
theorem mk_off' {C hd ca : Addr} {H : Hp} {u vm vc : V} {sz : List Int} {mv : List (List (List Int))} {cl : List (List Int)} {G : Addr → Hp → Prop} {E : XK} (hA : HandAt H hd ca) (hu : TI H u sz) (hm : TT (TT TI) H vm mv) (hc : TT TI H vc cl) (g : Good sz mv cl)
    (k : ∀ p H', Ks (fun x => x = hd) H H' → HandAt H' hd ca → OfAt C (Hd (fun x => x = hd) H') p ⟨sz, mv, cl⟩ → G p H') :
    ∀ x dx, H x = none → H dx = none → dx ≠ x → sp_init C Good (.ref x :: ([u, vm, vc] ++ [])) (upd (upd H dx (.own x)) x (.ins C dx [])) (fun v H2 => v = .non ∧ G x H2) E := fun x dx hx hdx ndx =>
  mk_off (E := E) (Q := fun v H' => ∀ p, v = .ref p → G p H') hA hu hm hc g (fun p H' k1 hA1 of1 q e => by cases e; exact k p H' k1 hA1 of1) x dx hx hdx ndx |> fun ⟨S, p, dx, vs, vm, vc, sz, mv, cl, e, h1, h2, h3, h4, h5, h6, h7, h8⟩ => ⟨S, p, dx, vs, vm, vc, sz, mv, cl, e, h1, h2, h3, h4, h5, h6, h7, fun H4 k4 o => ⟨(h8 H4 k4 o).1, (h8 H4 k4 o).2 _ rfl⟩⟩
theorem DayO.stb : Stb DayO := fun H H' v r k h => by
  cases r with
  | none => exact h
  | some d => exact DayR.stb H H' v d k h
section
variable {P : Program} {w : World} {K : PySem.W.Frag} {mg : Str → Option Value} {base : Heap} (T : Txt K mg) (Er : Err P K mg) (htop : (P.main.scope.names.lookup ("super" : Str)).isSome = false)
include T Er htop
theorem ok_law : KeepsAt P w K mg base callerA T.a_law T.d_law P_law (sp_law K) := by
  refine keeps_of T.F_law sc_law (fun vs H Q E h => ?_) (k := 10) ⟨rfl, by decide, by decide⟩ (fun cdv outer s H vs Q E hr h => ?_)
  · obtain ⟨a, ns, rfl, _⟩ := h; rfl
  · obtain ⟨sa, ns, rfl, hS, hl63, k⟩ := h
    have oc := T.oc
    have hgd : (callerA.deeper (envOfC "law" (defScope s_law) s.heap.objs.size T.a_law cdv)).guards = some [] := rfl
    refine ⟨_, (pss_cons (ps_set (i := 1) sc_law.nd rfl (Or.inl rfl) (pe_call (ok_l_hand T) (hr.mono (by decide)) rfl T.g_l_hand T.k_l_hand T.b_l_hand .nil pass0 (pa_cons (pv 0) pa_nil)))
  (pss_cons (ps_asg (pe_call (ok_l_two T) (hr.mono (by decide)) rfl T.g_l_two T.k_l_two T.b_l_two .nil pass0 (pa_cons (pv 1) pa_nil)) (pg_tup rfl (pgs_cons (pg_name (i := 2) sc_law.nd rfl (Or.inl rfl)) (pgs_cons (pg_name (i := 3) sc_law.nd rfl (Or.inl rfl)) pgs_nil))))
  (pss_cons (ps_set (i := 4) sc_law.nd rfl (Or.inl rfl) (pe_call (ok_l_least_parting T) (hr.mono (by decide)) rfl T.g_l_least_parting T.k_l_least_parting T.b_l_least_parting .nil pass0 (pa_cons (pv 2) (pa_cons (pv 3) pa_nil))))
  (pss_cons (ps_set (i := 5) sc_law.nd rfl (Or.inl rfl) (pe_call (ok_same_days T Er htop) (hr.mono (by decide)) rfl T.g_same_days T.k_same_days T.b_same_days .nil passL (pa_cons (pv 2) (pa_cons (pv 3) pa_nil))))
  (pss_cons (ps_if (PW.pt (pw_or (pt_cmpR op_ne (pe_callB (cr_reprO hr hgd) (by rfl) T.n_repr (by decide +kernel) (pa_cons (pv 5) pa_nil)) (pe_callB (cr_reprO hr hgd) (by rfl) T.n_repr (by decide +kernel) (pa_cons (pv 4) pa_nil)) (nomark _)) (pw_or1 (pt_cmpR (op_neD hr.units) (pe_call (ok_same_days T Er htop) (hr.mono (by decide)) rfl T.g_same_days T.k_same_days T.b_same_days .nil passL (pa_cons (pv 3) (pa_cons (pv 2) pa_nil))) (pv 5) (nomark _))))) (pss_one (ps_ret pe_bl)) pss_nil)
  (pss_cons (ps_if (PW.pt (pw_and (pt_cmpR op_notN (pv 5) pe_non (nomark _)) (pw_and1 (pt_cmpR op_eq (pe_call (ok_l_true T) (hr.mono (by decide)) rfl T.g_l_true T.k_l_true T.b_l_true .nil pass0 (pa_cons (pv 2) (pa_cons (pv 5) pa_nil))) (pe_call (ok_l_true T) (hr.mono (by decide)) rfl T.g_l_true T.k_l_true T.b_l_true .nil pass0 (pa_cons (pv 3) (pa_cons (pv 5) pa_nil))) (nomark _))))) (pss_one (ps_ret pe_bl)) pss_nil)
  (pss_cons (ps_for PassesOwn.never rfl (pi_range1 rfl T.n_range (pa_cons pe_int pa_nil)) (pg_name (i := 6) sc_law.nd rfl (Or.inl rfl)) (pss_one (ps_if (PW.pt (pw_and (PW.pt (pw_or (pt_cmpR op_isN (pv 5) pe_non (nomark _)) (pw_or1 (pt_cmpR op_gt (pe_callB call_len (by rfl) T.n_len (by decide +kernel) (pa_cons (pe_ix ix_tup (pv 5) pe_int (fun _ _ => rfl)) pa_nil)) (pv 6) (nomark _))))) (pw_and1 (pt_cmpR (op_neD hr.units) (pe_call (ok_l_days T) (hr.mono (by decide)) rfl T.g_l_days T.k_l_days T.b_l_days .nil pass0 (pa_cons (pv 2) (pa_cons (pv 6) pa_nil))) (pe_call (ok_l_days T) (hr.mono (by decide)) rfl T.g_l_days T.k_l_days T.b_l_days .nil pass0 (pa_cons (pv 3) (pa_cons (pv 6) pa_nil))) (nomark _))))) (pss_one (ps_ret pe_bl)) pss_nil)))
  (pss_one (ps_ret (pe_and (pe_cmpR op_isN (pe_call (ok_same_days T Er htop) (hr.mono (by decide)) rfl T.g_same_days T.k_same_days T.b_same_days .nil passL (pa_cons (pv 2) (pa_cons (pv 2) pa_nil))) pe_non (nomark _)) (pe_one (pe_cmpR op_isN (pe_call (ok_same_days T Er htop) (hr.mono (by decide)) rfl T.g_same_days T.k_same_days T.b_same_days .nil passL (pa_cons (pv 2) (pa_cons (pe_make T.m_Office (ok_Office_init T) (hr.mono (by decide)) rfl T.g_Office T.b_Office_init .nil pass0 (pa_cons (pe_fld (pv 2) rfl) (pa_cons (pe_fld (pv 2) rfl) (pa_cons (pe_fld (pv 2) rfl) pa_nil)))) pa_nil))) pe_non (nomark _))))))))))))), ?_⟩
    refine ⟨_, rfl, sa, ns, rfl, hS, hl63, fun hd ca H1 hhd hca k1 hA1 => ?_⟩
    refine ⟨_, rfl, hd, ca, rfl, hA1, oc, fun t p1 p2 o1 o2 H2 tw k2 hA2 f1 f2 ht => ⟨t, _, rfl, SqT.of ht, rfl, _, _, rfl, _, _, rfl, rfl, ?_⟩⟩
    obtain ⟨B, hB, lB⟩ := tw.few
    have w1 := good_wf tw.g1
    have w2 := good_wf tw.g2
    have g1 := f1.of
    have g2 := f2.of
    refine ⟨_, rfl, _, rfl, _, _, p1, p2, o1, o2, B, rfl, ⟨oc, g1, w1⟩, ⟨oc, g2, w2⟩, tw.es, ⟨hB, lB⟩, fun dv r H3 k3 sd dr dl => stepN ?_⟩
    dsimp only
    refine ⟨_, rfl, _, rfl, p1, p2, o1, o2, _, _, rfl, ⟨oc, g1.ke k3, w1⟩, ⟨oc, g2.ke k3, w2⟩, tw.es, ⟨tw.n1, tw.n2⟩, fun tv r' H4 k4 sd' dr' => stepN ?_⟩
    dsimp only
    obtain rfl := sd.uniq sd'
    have ok := dayOk_of tw.g1 sd dl
    have est : stepsOf o2 = stepsOf o1 := steps_eq tw.es.symm
    have esz2 : o2.sz.getD 2 0 = o1.sz.getD 2 0 := by rw [tw.es]
    have h64 : (stepsOf o1).length ≤ 64 := good_64 tw.g1
    have k24 := k3.trans k4
    have days : ∀ (i : Nat) (σ : L2.St) (H' : Hp) (Q' : VK), i ≤ 2 → σ[2]? = some (some (.ref p1)) → σ[3]? = some (some (.ref p2)) → σ[6]? = some (some (.int (0 + (i : Int)))) → Ke H2 H' → (∀ w, Wd (stepsOf o1) w → w.length = i → ∀ last, ¬ PartsW o1 o2 (o1.sz.getD 2 0) w last) → (∀ H'', Ke H' H'' → Q' (.bl false) H'') →
        tOp (rNeD K) (tCall (sp_ldays K) [] E0 (tCons (tVar 2) (tCons (tVar 6) tNil))) (tCall (sp_ldays K) [] E0 (tCons (tVar 3) (tCons (tVar 6) tNil))) σ H' Q' := fun i σ H' Q' hi e2 e3 e6 kk np q => by
      refine ⟨_, e2, _, e6, _, p1, o1, i, by rw [Int.zero_add]; rfl, oc, g1.ke kk, w1, hi, h64, fun l ws J k5 hl pl => ?_⟩
      refine ⟨_, e3, _, e6, _, p2, o2, i, by rw [Int.zero_add]; rfl, oc, g2.ke (kk.trans k5), w2, hi, by rw [est]; exact h64, fun l' ws' J' k6 hl' pl' => ?_⟩
      rw [est, esz2, ← days_same np] at pl'
      exact ne_days (k6.at hl) (pimp (fun v x r => DayR.stb _ _ v x k6.tx r) pl) hl' pl' (q J' (k5.trans k6))
    -- told and due
    refine ⟨_, rfl, nilA (repr_day dr' ok ⟨_, rfl, nilA (repr_day (DayO.stb _ _ _ _ k4.tx dr) ok ⟨rfl, _, rfl, ifNT rfl ?_⟩)⟩)⟩
    refine ⟨_, rfl, _, rfl, p2, p1, o2, o1, _, _, rfl, ⟨oc, g2.ke k24, w2⟩, ⟨oc, g1.ke k24, w1⟩, tw.es.symm, ⟨tw.n2, tw.n1⟩, fun tv2 r2 H5 k5 sd2 dr2 => ?_⟩
    rw [est, esz2] at sd2
    obtain rfl := sd.uniq sd2.symm
    refine ⟨_, rfl, ne_day dr2 (DayO.stb _ _ _ _ k5.tx dr') ⟨_, rfl, iteF (stepT ?_)⟩⟩
    dsimp only
    have k25 := k24.trans k5
    have dr5 := DayO.stb _ _ _ _ k5.tx dr'
    -- a day that is told is true of one alone
    refine seqJI (fun σ' H' => Ke H5 H' ∧ σ' = [some (.ref sa), some (.ref hd), some (.ref p1), some (.ref p2), some dv, some tv, none]) (fun nx hnx => ?_) ?_
    · refine ⟨_, rfl, rfl, _, rfl, ?_⟩
      cases r with
      | none => exact ifNT dr5 (iteF' (fun z => by cases z) (stepT (hnx _ _ ⟨.refl, rfl⟩)))
      | some d =>
        obtain ⟨t5, w5, et, _⟩ := id dr5
        refine ifNF (by rw [et]; exact fun z => nomatch z) ?_
        refine ⟨_, rfl, _, rfl, _, p1, o1, tv, d, rfl, oc, g1.ke k25, w1, dr5, fun H6 k6 => ?_⟩
        refine ⟨_, rfl, _, rfl, _, p2, o2, tv, d, rfl, oc, g2.ke (k25.trans k6), w2, DayR.stb _ _ _ _ k6.tx dr5, fun H7 k7 => ⟨rfl, _, rfl, iteF' (fun z => true_one sd (by have z' := of_decide_eq_true z; injection z')) (stepT (hnx _ _ ⟨k6.trans k7, rfl⟩))⟩⟩
    · rintro σ H6 ⟨k6, rfl⟩
      have k26 := k25.trans k6
      have dr6 := DayO.stb _ _ _ _ k6.tx dr5
      refine ⟨3, rfl, by decide, by decide, for_range (fun i σ H' => (∃ s6, σ = [some (.ref sa), some (.ref hd), some (.ref p1), some (.ref p2), some dv, some tv, s6]) ∧ Ke H6 H') ⟨⟨_, rfl⟩, .refl⟩ ?_ ?_⟩
      · rintro i σ H7 hi ⟨⟨s6, rfl⟩, k7⟩
        have k27 := k26.trans k7
        have hi2 : i ≤ 2 := by have : i < 3 := hi; omega
        cases r with
        | none =>
          have etv : tv = .non := dr6
          refine ⟨_, rfl, rfl, _, rfl, iteT' (decide_eq_true etv) (iteT' rfl ?_)⟩
          refine days i _ H7 _ hi2 rfl rfl rfl k27 (fun w hw _ => sd w hw) fun H8 k8 => ⟨_, rfl, iteF' (fun z => by cases z) (stepT ⟨⟨_, rfl⟩, k7.trans k8⟩)⟩
        | some d =>
          obtain ⟨t6, w6, et, ht6, wa, wws, rfl, hwa, pw⟩ := id dr6
          have lw := plen pw
          refine ⟨_, rfl, rfl, _, rfl, iteF' (fun z => by rw [et] at z; have z' := of_decide_eq_true z; cases z') ?_⟩
          refine ⟨_, rfl, t6, _, 0, _, et, rfl, SqT.of (k7.at ht6), rfl, .ref wa, _, rfl, .inr ⟨_, SqT.of (k7.at hwa), rfl⟩, _, rfl, _, _, rfl, rfl, _, rfl, ite2 (fun z => ?_) (fun _ => iteF' (fun z => by cases z) (stepT ⟨⟨_, rfl⟩, k7⟩))⟩
          have hlt := of_decide_eq_true z
          refine days i _ H7 _ hi2 rfl rfl rfl k27 (fun w hw hl => sd.2.2.1 w hw (by omega)) fun H8 k8 => ⟨_, rfl, iteF' (fun z => by cases z) (stepT ⟨⟨_, rfl⟩, k7.trans k8⟩)⟩
      · rintro σ H7 ⟨⟨s6, rfl⟩, k7⟩
        have k27 := k26.trans k7
        refine ⟨_, rfl, _, rfl, p1, p1, o1, o1, _, _, rfl, ⟨oc, g1.ke k27, w1⟩, ⟨oc, g1.ke k27, w1⟩, rfl, ⟨tw.n1, tw.n1⟩, fun v0 r0 H8 k8 sd0 dr0 => ?_⟩
        obtain rfl := SD.self.uniq sd0
        have ev0 : v0 = .non := dr0
        refine ⟨rfl, true, by rw [decide_eq_true ev0], iteT' rfl ?_⟩
        have k28 := k27.trans k8
        have f1' := f1.ks k28.ks
        obtain ⟨dx1, vs1, vm1, vc1, l1, ds1, hp1, hz1, hm1, hc1, _⟩ := f1'.of.ex
        refine ⟨_, rfl, _, rfl, p1, _, dx1, _, _, rfl, hp1, oc.c, oc.n1, offF_s _ _ _ _, _, rfl, p1, _, dx1, _, _, rfl, hp1, oc.c, oc.n2, offF_m _ _ _ _, _, rfl, p1, _, dx1, _, _, rfl, hp1, oc.c, oc.n3, offF_c _ _ _ _, ?_⟩
        refine nilA (mk_off' (hA2.ke k28) hz1 hm1 hc1 tw.g1 fun q H9 k9 hA9 of9 => nilA ?_)
        refine ⟨p1, q, o1, o1, _, _, rfl, ⟨oc, (f1'.ks k9).of, w1⟩, ⟨oc, Stands.of of9, w1⟩, rfl, ⟨tw.n1, tw.n1⟩, fun v9 r9 H10 k10 sd9 dr9 => ⟨rfl, ?_⟩⟩
        obtain rfl := SD.self.uniq sd9
        have ev9 : v9 = .non := dr9
        rw [decide_eq_true ev9]
        exact k _
end
end Fd
set_option Elab.async false
set_option linter.all false
set_option maxRecDepth 100000
set_option maxHeartbeats 0
namespace Fd
open PySem PySem.Spec PyProof.Rows L2
def D_is_integer : He.DefD := ⟨("is_integer", none), "is_integer", "is_integer", defArgs s_is_integer, defBody s_is_integer, defScope s_is_integer, [], []⟩
def D_is_within : He.DefD := ⟨("is_within", none), "is_within", "is_within", defArgs s_is_within, defBody s_is_within, defScope s_is_within, [], []⟩
def D_is_triple : He.DefD := ⟨("is_triple", none), "is_triple", "is_triple", defArgs s_is_triple, defBody s_is_triple, defScope s_is_triple, [], []⟩
def D_are_ascending : He.DefD := ⟨("are_ascending", none), "are_ascending", "are_ascending", defArgs s_are_ascending, defBody s_are_ascending, defScope s_are_ascending, [], []⟩
def D_are_sizes : He.DefD := ⟨("are_sizes", none), "are_sizes", "are_sizes", defArgs s_are_sizes, defBody s_are_sizes, defScope s_are_sizes, [], []⟩
def D_is_move : He.DefD := ⟨("is_move", none), "is_move", "is_move", defArgs s_is_move, defBody s_is_move, defScope s_is_move, [], []⟩
def D_are_moves : He.DefD := ⟨("are_moves", none), "are_moves", "are_moves", defArgs s_are_moves, defBody s_are_moves, defScope s_are_moves, [], []⟩
def D_are_closings : He.DefD := ⟨("are_closings", none), "are_closings", "are_closings", defArgs s_are_closings, defBody s_are_closings, defScope s_are_closings, [], []⟩
def D_Office_init : He.DefD := ⟨("Office", some "__init__"), "__init__", "Office.__init__", defArgs s_Office_init, defBody s_Office_init, defScope s_Office_init, [], []⟩
def D_Office_keep : He.DefD := ⟨("Office", some "keep"), "keep", "Office.keep", defArgs s_Office_keep, defBody s_Office_keep, defScope s_Office_keep, [], []⟩
def D_goals_of : He.DefD := ⟨("goals_of", none), "goals_of", "goals_of", defArgs s_goals_of, defBody s_goals_of, defScope s_goals_of, [], []⟩
def D_all_steps : He.DefD := ⟨("all_steps", none), "all_steps", "all_steps", defArgs s_all_steps, defBody s_all_steps, defScope s_all_steps, [], []⟩
def D_Reader_init : He.DefD := ⟨("Reader", some "__init__"), "__init__", "Reader.__init__", defArgs s_Reader_init, defBody s_Reader_init, defScope s_Reader_init, [], []⟩
def D_Reader_behind : He.DefD := ⟨("Reader", some "behind"), "behind", "Reader.behind", defArgs s_Reader_behind, defBody s_Reader_behind, defScope s_Reader_behind, [], []⟩
def D_Reader_closes : He.DefD := ⟨("Reader", some "closes"), "closes", "Reader.closes", defArgs s_Reader_closes, defBody s_Reader_closes, defScope s_Reader_closes, [], []⟩
def D_lasts_of : He.DefD := ⟨("lasts_of", none), "lasts_of", "lasts_of", defArgs s_lasts_of, defBody s_lasts_of, defScope s_lasts_of, [], []⟩
def D_Editions_init : He.DefD := ⟨("Editions", some "__init__"), "__init__", "Editions.__init__", defArgs s_Editions_init, defBody s_Editions_init, defScope s_Editions_init, [], []⟩
def D_Editions_parting : He.DefD := ⟨("Editions", some "parting"), "parting", "Editions.parting", defArgs s_Editions_parting, defBody s_Editions_parting, defScope s_Editions_parting, [], []⟩
def D_Editions_steps_from : He.DefD := ⟨("Editions", some "steps_from"), "steps_from", "Editions.steps_from", defArgs s_Editions_steps_from, defBody s_Editions_steps_from, defScope s_Editions_steps_from, [], []⟩
def D_Editions_advance : He.DefD := ⟨("Editions", some "advance"), "advance", "Editions.advance", defArgs s_Editions_advance, defBody s_Editions_advance, defScope s_Editions_advance, [], []⟩
def D_same_days : He.DefD := ⟨("same_days", none), "same_days", "same_days", defArgs s_same_days, defBody s_same_days, defScope s_same_days, [], []⟩
def D_l_hand : He.DefD := ⟨("_law_hand", none), "_law_hand", "_law_hand", defArgs s_l_hand, defBody s_l_hand, defScope s_l_hand, [], []⟩
def D_l_draw : He.DefD := ⟨("_law_draw", none), "_law_draw", "_law_draw", defArgs s_l_draw, defBody s_l_draw, defScope s_l_draw, [], []⟩
def D_l_sizes : He.DefD := ⟨("_law_sizes", none), "_law_sizes", "_law_sizes", defArgs s_l_sizes, defBody s_l_sizes, defScope s_l_sizes, [], []⟩
def D_l_moves : He.DefD := ⟨("_law_moves", none), "_law_moves", "_law_moves", defArgs s_l_moves, defBody s_l_moves, defScope s_l_moves, [], []⟩
def D_l_closings : He.DefD := ⟨("_law_closings", none), "_law_closings", "_law_closings", defArgs s_l_closings, defBody s_l_closings, defScope s_l_closings, [], []⟩
def D_l_office : He.DefD := ⟨("_law_office", none), "_law_office", "_law_office", defArgs s_l_office, defBody s_l_office, defScope s_l_office, [], []⟩
def D_l_behind : He.DefD := ⟨("_law_behind", none), "_law_behind", "_law_behind", defArgs s_l_behind, defBody s_l_behind, defScope s_l_behind, [], []⟩
def D_l_all_steps : He.DefD := ⟨("_law_all_steps", none), "_law_all_steps", "_law_all_steps", defArgs s_l_all_steps, defBody s_l_all_steps, defScope s_l_all_steps, [], []⟩
def D_l_closes : He.DefD := ⟨("_law_closes", none), "_law_closes", "_law_closes", defArgs s_l_closes, defBody s_l_closes, defScope s_l_closes, [], []⟩
def D_l_true : He.DefD := ⟨("_law_true", none), "_law_true", "_law_true", defArgs s_l_true, defBody s_l_true, defScope s_l_true, [], []⟩
def D_l_days : He.DefD := ⟨("_law_days", none), "_law_days", "_law_days", defArgs s_l_days, defBody s_l_days, defScope s_l_days, [], []⟩
def D_l_changed : He.DefD := ⟨("_law_changed", none), "_law_changed", "_law_changed", defArgs s_l_changed, defBody s_l_changed, defScope s_l_changed, [], []⟩
def D_l_ring_office : He.DefD := ⟨("_law_ring_office", none), "_law_ring_office", "_law_ring_office", defArgs s_l_ring_office, defBody s_l_ring_office, defScope s_l_ring_office, [], []⟩
def D_l_least_parting : He.DefD := ⟨("_law_least_parting", none), "_law_least_parting", "_law_least_parting", defArgs s_l_least_parting, defBody s_l_least_parting, defScope s_l_least_parting, [], []⟩
def D_l_two : He.DefD := ⟨("_law_two", none), "_law_two", "_law_two", defArgs s_l_two, defBody s_l_two, defScope s_l_two, [], []⟩
def D_law : He.DefD := ⟨("law", none), "law", "law", defArgs s_law, defBody s_law, defScope s_law, [], []⟩
def fnL : List He.DefD := [D_is_integer, D_is_within, D_is_triple, D_are_ascending, D_are_sizes, D_is_move, D_are_moves, D_are_closings, D_Office_init, D_Office_keep, D_goals_of, D_all_steps, D_Reader_init, D_Reader_behind, D_Reader_closes, D_lasts_of, D_Editions_init, D_Editions_parting, D_Editions_steps_from, D_Editions_advance] ++ [D_same_days, D_l_hand, D_l_draw, D_l_sizes, D_l_moves, D_l_closings, D_l_office, D_l_behind, D_l_all_steps, D_l_closes, D_l_true, D_l_days, D_l_changed, D_l_ring_office, D_l_least_parting, D_l_two, D_law]
def faL : List He.Fa := ([.glo "is_integer", .glo "is_within", .glo "is_triple", .glo "are_ascending", .glo "are_sizes", .glo "is_move", .glo "are_moves", .glo "are_closings", .glo "goals_of", .glo "all_steps", .glo "lasts_of", .glo "same_days", .glo "_law_hand", .glo "_law_draw", .glo "_law_sizes", .glo "_law_moves", .glo "_law_closings", .glo "_law_office", .glo "_law_behind", .glo "_law_all_steps"] : List He.Fa) ++ ([.glo "_law_closes", .glo "_law_true", .glo "_law_days", .glo "_law_changed", .glo "_law_ring_office", .glo "_law_least_parting", .glo "_law_two", .glo "law", .free "abs", .free "all", .free "any", .free "bool", .free "int", .free "isinstance", .free "len", .free "list", .free "min", .free "range", .free "repr", .free "sorted"] : List He.Fa) ++ ([.free "tuple", .free "zip", .int "MOST_SIZE" (4), .int "MOST_STANDINGS" (20), .int "MOST_SETS" (60), .int "DEAD" (-1), .glo "Office", .cls "Office", .mkr "Office", .noat "Office" "sizes", .noat "Office" "moves", .noat "Office" "closings", .noat "Office" "kept_goals", .meth "Office" "keep", .glo "Reader", .cls "Reader", .mkr "Reader", .noat "Reader" "table", .noat "Reader" "shut", .noat "Reader" "kept_sets"] : List He.Fa) ++ ([.meth "Reader" "behind", .meth "Reader" "closes", .glo "Editions", .cls "Editions", .mkr "Editions", .noat "Editions" "readers", .noat "Editions" "marks", .noat "Editions" "met", .noat "Editions" "layer", .meth "Editions" "parting", .meth "Editions" "steps_from", .meth "Editions" "advance"] : List He.Fa) ++ ([.glo "FalseError", .glo "OtherSizes", .glo "TooMany", .free "super"] : List He.Fa)
def looseL : List PySem.Str := (["_wall", "FalseError", "BadOffice", "TooMany", "OtherSizes", "is_integer", "is_within", "is_triple", "are_ascending", "MOST_SIZE", "MOST_STANDINGS", "are_sizes", "is_move", "are_moves", "are_closings", "Office", "goals_of", "all_steps", "MOST_SETS", "DEAD"] : List PySem.Str) ++ (["Reader", "lasts_of", "Editions", "same_days", "_law_hand", "_law_draw", "_law_sizes", "_law_moves", "_law_closings", "_law_office", "_law_behind", "_law_all_steps", "_law_closes", "_law_true", "_law_days", "_law_changed", "_law_ring_office", "_law_least_parting", "_law_two"] : List PySem.Str)
abbrev RR : PySem.W.OpenRow := PySem.W.OpenLaw.row PySem.Challenge.rw_falsedays_k80_whole_where_editions_part
def sdL : List SupD := [D_TooMany]
def xsL : List (PySem.W.Frag → Bool) := [
  fun K => PySem.W.excIn K (He.ga K "OtherSizes") He.veBase "ValueError.__new__",
  fun K => PySem.W.keepIn K (.ref (He.ga K "OtherSizes")),
  fun K => decide (PySem.W.subIn K (.ref (He.ga K "OtherSizes")) (.type "BaseException") = some true),
  fun K => decide (PySem.W.typeIn K (.ref (He.ga K "OtherSizes")) = some (.type "type")),
  fun K => decide (PySem.W.findIn K (.ref (He.ga K "TooMany")) "__init__" = some (some (.ref (iAd K "TooMany")))),
  fun K => decide (PySem.W.typeIn K (.ref (iAd K "TooMany")) = some (.type "function")),
  fun K => decide (PySem.W.findIn K (.ref (He.ga K "TooMany")) "most" = some none)]
abbrev hkk : PySem.W.Hook := hookX 5 faL fnL sdL xsL
def obb (s : PySem.W.SharedT) : AlX := obsXG 5 faL fnL sdL xsL (HandSHeadRun.getT s)
theorem obb_eq (s : PySem.W.SharedT) : obb s = hkk.obs s.abs := obsXG_eq (HandSHeadRun.getT_eq s)
theorem runn (w : World) : HandSHeadRun.RunEq RR (PySem.W.view RR.prog [45]) hkk obb 6000 looseL w := by
  intro os
  kernel_rfl
end Fd
set_option Elab.async false
set_option linter.all false
set_option maxRecDepth 100000
set_option maxHeartbeats 0
namespace Fd
open PySem PySem.Spec PyProof.Rows L2
theorem fun_ofD {K : PySem.W.Frag} {x qual : Str} {st : Stmt} {f : Addr} {fd : FuncData} (F : FunD K x qual (defArgs st) (defBody st) (defScope st) [] [] f fd) : Fun K x qual st f fd := by
  obtain ⟨oc, od, dV, kV, doc, pm, an, cdv, ct, osl, e, l, c, dv, _⟩ := F.ex
  cases dv with
  | inl h => exact ⟨⟨oc, od, kV, doc, pm, an, cdv, ct, osl, by rw [← h.2]; exact e, l, c⟩, F.kp⟩
  | inr h => exact absurd rfl h.1
theorem txt_of {K : PySem.W.Frag} {h : Heap} {mg : Str → Option Value} (X : K.In h) (G : h.Ns mainGlobals mg) (c : He.SaysD faL fnL K) : ∃ T : Txt K mg, True := by
  obtain ⟨d_is_integer, E_is_integer⟩ := c.def_ 0 (d := D_is_integer) rfl
  have F_is_integer : Fun K _ _ s_is_integer _ d_is_integer := fun_ofD E_is_integer
  have b_is_integer : Binds K d_is_integer P_is_integer [] := F_is_integer.binds fun _ _ _ _ _ _ us hl => match us, hl with | [_], _ => rfl
  obtain ⟨d_is_within, E_is_within⟩ := c.def_ 1 (d := D_is_within) rfl
  have F_is_within : Fun K _ _ s_is_within _ d_is_within := fun_ofD E_is_within
  have b_is_within : Binds K d_is_within P_is_within [] := F_is_within.binds fun _ _ _ _ _ _ us hl => match us, hl with | [_, _, _], _ => rfl
  obtain ⟨d_is_triple, E_is_triple⟩ := c.def_ 2 (d := D_is_triple) rfl
  have F_is_triple : Fun K _ _ s_is_triple _ d_is_triple := fun_ofD E_is_triple
  have b_is_triple : Binds K d_is_triple P_is_triple [] := F_is_triple.binds fun _ _ _ _ _ _ us hl => match us, hl with | [_], _ => rfl
  obtain ⟨d_are_ascending, E_are_ascending⟩ := c.def_ 3 (d := D_are_ascending) rfl
  have F_are_ascending : Fun K _ _ s_are_ascending _ d_are_ascending := fun_ofD E_are_ascending
  have b_are_ascending : Binds K d_are_ascending P_are_ascending [] := F_are_ascending.binds fun _ _ _ _ _ _ us hl => match us, hl with | [_], _ => rfl
  obtain ⟨d_are_sizes, E_are_sizes⟩ := c.def_ 4 (d := D_are_sizes) rfl
  have F_are_sizes : Fun K _ _ s_are_sizes _ d_are_sizes := fun_ofD E_are_sizes
  have b_are_sizes : Binds K d_are_sizes P_are_sizes [] := F_are_sizes.binds fun _ _ _ _ _ _ us hl => match us, hl with | [_], _ => rfl
  obtain ⟨d_is_move, E_is_move⟩ := c.def_ 5 (d := D_is_move) rfl
  have F_is_move : Fun K _ _ s_is_move _ d_is_move := fun_ofD E_is_move
  have b_is_move : Binds K d_is_move P_is_move [] := F_is_move.binds fun _ _ _ _ _ _ us hl => match us, hl with | [_, _, _], _ => rfl
  obtain ⟨d_are_moves, E_are_moves⟩ := c.def_ 6 (d := D_are_moves) rfl
  have F_are_moves : Fun K _ _ s_are_moves _ d_are_moves := fun_ofD E_are_moves
  have b_are_moves : Binds K d_are_moves P_are_moves [] := F_are_moves.binds fun _ _ _ _ _ _ us hl => match us, hl with | [_, _], _ => rfl
  obtain ⟨d_are_closings, E_are_closings⟩ := c.def_ 7 (d := D_are_closings) rfl
  have F_are_closings : Fun K _ _ s_are_closings _ d_are_closings := fun_ofD E_are_closings
  have b_are_closings : Binds K d_are_closings P_are_closings [] := F_are_closings.binds fun _ _ _ _ _ _ us hl => match us, hl with | [_, _, _], _ => rfl
  obtain ⟨d_Office_init, E_Office_init⟩ := c.def_ 8 (d := D_Office_init) rfl
  have F_Office_init : Fun K _ _ s_Office_init _ d_Office_init := fun_ofD E_Office_init
  have b_Office_init : Binds K d_Office_init P_Office_init [] := F_Office_init.binds fun _ _ _ _ _ _ us hl => match us, hl with | [_, _, _, _], _ => rfl
  obtain ⟨d_Office_keep, E_Office_keep⟩ := c.def_ 9 (d := D_Office_keep) rfl
  have F_Office_keep : Fun K _ _ s_Office_keep _ d_Office_keep := fun_ofD E_Office_keep
  have b_Office_keep : Binds K d_Office_keep P_Office_keep [] := F_Office_keep.binds fun _ _ _ _ _ _ us hl => match us, hl with | [_, _, _, _], _ => rfl
  obtain ⟨d_goals_of, E_goals_of⟩ := c.def_ 10 (d := D_goals_of) rfl
  have F_goals_of : Fun K _ _ s_goals_of _ d_goals_of := fun_ofD E_goals_of
  have b_goals_of : Binds K d_goals_of P_goals_of [] := F_goals_of.binds fun _ _ _ _ _ _ us hl => match us, hl with | [_, _, _], _ => rfl
  obtain ⟨d_all_steps, E_all_steps⟩ := c.def_ 11 (d := D_all_steps) rfl
  have F_all_steps : Fun K _ _ s_all_steps _ d_all_steps := fun_ofD E_all_steps
  have b_all_steps : Binds K d_all_steps P_all_steps [] := F_all_steps.binds fun _ _ _ _ _ _ us hl => match us, hl with | [_], _ => rfl
  obtain ⟨d_Reader_init, E_Reader_init⟩ := c.def_ 12 (d := D_Reader_init) rfl
  have F_Reader_init : Fun K _ _ s_Reader_init _ d_Reader_init := fun_ofD E_Reader_init
  have b_Reader_init : Binds K d_Reader_init P_Reader_init [] := F_Reader_init.binds fun _ _ _ _ _ _ us hl => match us, hl with | [_, _], _ => rfl
  obtain ⟨d_Reader_behind, E_Reader_behind⟩ := c.def_ 13 (d := D_Reader_behind) rfl
  have F_Reader_behind : Fun K _ _ s_Reader_behind _ d_Reader_behind := fun_ofD E_Reader_behind
  have b_Reader_behind : Binds K d_Reader_behind P_Reader_behind [] := F_Reader_behind.binds fun _ _ _ _ _ _ us hl => match us, hl with | [_, _, _], _ => rfl
  obtain ⟨d_Reader_closes, E_Reader_closes⟩ := c.def_ 14 (d := D_Reader_closes) rfl
  have F_Reader_closes : Fun K _ _ s_Reader_closes _ d_Reader_closes := fun_ofD E_Reader_closes
  have b_Reader_closes : Binds K d_Reader_closes P_Reader_closes [] := F_Reader_closes.binds fun _ _ _ _ _ _ us hl => match us, hl with | [_, _, _], _ => rfl
  obtain ⟨d_lasts_of, E_lasts_of⟩ := c.def_ 15 (d := D_lasts_of) rfl
  have F_lasts_of : Fun K _ _ s_lasts_of _ d_lasts_of := fun_ofD E_lasts_of
  have b_lasts_of : Binds K d_lasts_of P_lasts_of [] := F_lasts_of.binds fun _ _ _ _ _ _ us hl => match us, hl with | [_, _], _ => rfl
  obtain ⟨d_Editions_init, E_Editions_init⟩ := c.def_ 16 (d := D_Editions_init) rfl
  have F_Editions_init : Fun K _ _ s_Editions_init _ d_Editions_init := fun_ofD E_Editions_init
  have b_Editions_init : Binds K d_Editions_init P_Editions_init [] := F_Editions_init.binds fun _ _ _ _ _ _ us hl => match us, hl with | [_, _, _], _ => rfl
  obtain ⟨d_Editions_parting, E_Editions_parting⟩ := c.def_ 17 (d := D_Editions_parting) rfl
  have F_Editions_parting : Fun K _ _ s_Editions_parting _ d_Editions_parting := fun_ofD E_Editions_parting
  have b_Editions_parting : Binds K d_Editions_parting P_Editions_parting [] := F_Editions_parting.binds fun _ _ _ _ _ _ us hl => match us, hl with | [_], _ => rfl
  obtain ⟨d_Editions_steps_from, E_Editions_steps_from⟩ := c.def_ 18 (d := D_Editions_steps_from) rfl
  have F_Editions_steps_from : Fun K _ _ s_Editions_steps_from _ d_Editions_steps_from := fun_ofD E_Editions_steps_from
  have b_Editions_steps_from : Binds K d_Editions_steps_from P_Editions_steps_from [] := F_Editions_steps_from.binds fun _ _ _ _ _ _ us hl => match us, hl with | [_, _], _ => rfl
  obtain ⟨d_Editions_advance, E_Editions_advance⟩ := c.def_ 19 (d := D_Editions_advance) rfl
  have F_Editions_advance : Fun K _ _ s_Editions_advance _ d_Editions_advance := fun_ofD E_Editions_advance
  have b_Editions_advance : Binds K d_Editions_advance P_Editions_advance [] := F_Editions_advance.binds fun _ _ _ _ _ _ us hl => match us, hl with | [_], _ => rfl
  obtain ⟨d_same_days, E_same_days⟩ := c.def_ 20 (d := D_same_days) rfl
  have F_same_days : Fun K _ _ s_same_days _ d_same_days := fun_ofD E_same_days
  have b_same_days : Binds K d_same_days P_same_days [] := F_same_days.binds fun _ _ _ _ _ _ us hl => match us, hl with | [_, _], _ => rfl
  obtain ⟨d_l_hand, E_l_hand⟩ := c.def_ 21 (d := D_l_hand) rfl
  have F_l_hand : Fun K _ _ s_l_hand _ d_l_hand := fun_ofD E_l_hand
  have b_l_hand : Binds K d_l_hand P_l_hand [] := F_l_hand.binds fun _ _ _ _ _ _ us hl => match us, hl with | [_], _ => rfl
  obtain ⟨d_l_draw, E_l_draw⟩ := c.def_ 22 (d := D_l_draw) rfl
  have F_l_draw : Fun K _ _ s_l_draw _ d_l_draw := fun_ofD E_l_draw
  have b_l_draw : Binds K d_l_draw P_l_draw [] := F_l_draw.binds fun _ _ _ _ _ _ us hl => match us, hl with | [_, _], _ => rfl
  obtain ⟨d_l_sizes, E_l_sizes⟩ := c.def_ 23 (d := D_l_sizes) rfl
  have F_l_sizes : Fun K _ _ s_l_sizes _ d_l_sizes := fun_ofD E_l_sizes
  have b_l_sizes : Binds K d_l_sizes P_l_sizes [] := F_l_sizes.binds fun _ _ _ _ _ _ us hl => match us, hl with | [_, _], _ => rfl
  obtain ⟨d_l_moves, E_l_moves⟩ := c.def_ 24 (d := D_l_moves) rfl
  have F_l_moves : Fun K _ _ s_l_moves _ d_l_moves := fun_ofD E_l_moves
  have b_l_moves : Binds K d_l_moves P_l_moves [] := F_l_moves.binds fun _ _ _ _ _ _ us hl => match us, hl with | [_, _, _], _ => rfl
  obtain ⟨d_l_closings, E_l_closings⟩ := c.def_ 25 (d := D_l_closings) rfl
  have F_l_closings : Fun K _ _ s_l_closings _ d_l_closings := fun_ofD E_l_closings
  have b_l_closings : Binds K d_l_closings P_l_closings [] := F_l_closings.binds fun _ _ _ _ _ _ us hl => match us, hl with | [_, _, _], _ => rfl
  obtain ⟨d_l_office, E_l_office⟩ := c.def_ 26 (d := D_l_office) rfl
  have F_l_office : Fun K _ _ s_l_office _ d_l_office := fun_ofD E_l_office
  have b_l_office : Binds K d_l_office P_l_office [] := F_l_office.binds fun _ _ _ _ _ _ us hl => match us, hl with | [_, _, _], _ => rfl
  obtain ⟨d_l_behind, E_l_behind⟩ := c.def_ 27 (d := D_l_behind) rfl
  have F_l_behind : Fun K _ _ s_l_behind _ d_l_behind := fun_ofD E_l_behind
  have b_l_behind : Binds K d_l_behind P_l_behind [] := F_l_behind.binds fun _ _ _ _ _ _ us hl => match us, hl with | [_, _, _], _ => rfl
  obtain ⟨d_l_all_steps, E_l_all_steps⟩ := c.def_ 28 (d := D_l_all_steps) rfl
  have F_l_all_steps : Fun K _ _ s_l_all_steps _ d_l_all_steps := fun_ofD E_l_all_steps
  have b_l_all_steps : Binds K d_l_all_steps P_l_all_steps [] := F_l_all_steps.binds fun _ _ _ _ _ _ us hl => match us, hl with | [_], _ => rfl
  obtain ⟨d_l_closes, E_l_closes⟩ := c.def_ 29 (d := D_l_closes) rfl
  have F_l_closes : Fun K _ _ s_l_closes _ d_l_closes := fun_ofD E_l_closes
  have b_l_closes : Binds K d_l_closes P_l_closes [] := F_l_closes.binds fun _ _ _ _ _ _ us hl => match us, hl with | [_, _, _], _ => rfl
  obtain ⟨d_l_true, E_l_true⟩ := c.def_ 30 (d := D_l_true) rfl
  have F_l_true : Fun K _ _ s_l_true _ d_l_true := fun_ofD E_l_true
  have b_l_true : Binds K d_l_true P_l_true [] := F_l_true.binds fun _ _ _ _ _ _ us hl => match us, hl with | [_, _], _ => rfl
  obtain ⟨d_l_days, E_l_days⟩ := c.def_ 31 (d := D_l_days) rfl
  have F_l_days : Fun K _ _ s_l_days _ d_l_days := fun_ofD E_l_days
  have b_l_days : Binds K d_l_days P_l_days [] := F_l_days.binds fun _ _ _ _ _ _ us hl => match us, hl with | [_, _], _ => rfl
  obtain ⟨d_l_changed, E_l_changed⟩ := c.def_ 32 (d := D_l_changed) rfl
  have F_l_changed : Fun K _ _ s_l_changed _ d_l_changed := fun_ofD E_l_changed
  have b_l_changed : Binds K d_l_changed P_l_changed [] := F_l_changed.binds fun _ _ _ _ _ _ us hl => match us, hl with | [_, _], _ => rfl
  obtain ⟨d_l_ring_office, E_l_ring_office⟩ := c.def_ 33 (d := D_l_ring_office) rfl
  have F_l_ring_office : Fun K _ _ s_l_ring_office _ d_l_ring_office := fun_ofD E_l_ring_office
  have b_l_ring_office : Binds K d_l_ring_office P_l_ring_office [] := F_l_ring_office.binds fun _ _ _ _ _ _ us hl => match us, hl with | [_, _], _ => rfl
  obtain ⟨d_l_least_parting, E_l_least_parting⟩ := c.def_ 34 (d := D_l_least_parting) rfl
  have F_l_least_parting : Fun K _ _ s_l_least_parting _ d_l_least_parting := fun_ofD E_l_least_parting
  have b_l_least_parting : Binds K d_l_least_parting P_l_least_parting [] := F_l_least_parting.binds fun _ _ _ _ _ _ us hl => match us, hl with | [_, _], _ => rfl
  obtain ⟨d_l_two, E_l_two⟩ := c.def_ 35 (d := D_l_two) rfl
  have F_l_two : Fun K _ _ s_l_two _ d_l_two := fun_ofD E_l_two
  have b_l_two : Binds K d_l_two P_l_two [] := F_l_two.binds fun _ _ _ _ _ _ us hl => match us, hl with | [_], _ => rfl
  obtain ⟨d_law, E_law⟩ := c.def_ 36 (d := D_law) rfl
  have F_law : Fun K _ _ s_law _ d_law := fun_ofD E_law
  have b_law : Binds K d_law P_law [] := F_law.binds fun _ _ _ _ _ _ us hl => match us, hl with | [_], _ => rfl
  obtain ⟨t_MOST_SIZE, g_MOST_SIZE⟩ := He.int_ok X G (c.fact 42 (f := .int "MOST_SIZE" (4)) rfl)
  obtain ⟨t_MOST_STANDINGS, g_MOST_STANDINGS⟩ := He.int_ok X G (c.fact 43 (f := .int "MOST_STANDINGS" (20)) rfl)
  obtain ⟨t_MOST_SETS, g_MOST_SETS⟩ := He.int_ok X G (c.fact 44 (f := .int "MOST_SETS" (60)) rfl)
  obtain ⟨t_DEAD, g_DEAD⟩ := He.int_ok X G (c.fact 45 (f := .int "DEAD" (-1)) rfl)
  exact ⟨{
    a_is_integer := _, d_is_integer := d_is_integer, F_is_integer := F_is_integer, b_is_integer := b_is_integer,
    a_is_within := _, d_is_within := d_is_within, F_is_within := F_is_within, b_is_within := b_is_within,
    a_is_triple := _, d_is_triple := d_is_triple, F_is_triple := F_is_triple, b_is_triple := b_is_triple,
    a_are_ascending := _, d_are_ascending := d_are_ascending, F_are_ascending := F_are_ascending, b_are_ascending := b_are_ascending,
    a_are_sizes := _, d_are_sizes := d_are_sizes, F_are_sizes := F_are_sizes, b_are_sizes := b_are_sizes,
    a_is_move := _, d_is_move := d_is_move, F_is_move := F_is_move, b_is_move := b_is_move,
    a_are_moves := _, d_are_moves := d_are_moves, F_are_moves := F_are_moves, b_are_moves := b_are_moves,
    a_are_closings := _, d_are_closings := d_are_closings, F_are_closings := F_are_closings, b_are_closings := b_are_closings,
    a_Office_init := _, d_Office_init := d_Office_init, F_Office_init := F_Office_init, b_Office_init := b_Office_init,
    a_Office_keep := _, d_Office_keep := d_Office_keep, F_Office_keep := F_Office_keep, b_Office_keep := b_Office_keep,
    a_goals_of := _, d_goals_of := d_goals_of, F_goals_of := F_goals_of, b_goals_of := b_goals_of,
    a_all_steps := _, d_all_steps := d_all_steps, F_all_steps := F_all_steps, b_all_steps := b_all_steps,
    a_Reader_init := _, d_Reader_init := d_Reader_init, F_Reader_init := F_Reader_init, b_Reader_init := b_Reader_init,
    a_Reader_behind := _, d_Reader_behind := d_Reader_behind, F_Reader_behind := F_Reader_behind, b_Reader_behind := b_Reader_behind,
    a_Reader_closes := _, d_Reader_closes := d_Reader_closes, F_Reader_closes := F_Reader_closes, b_Reader_closes := b_Reader_closes,
    a_lasts_of := _, d_lasts_of := d_lasts_of, F_lasts_of := F_lasts_of, b_lasts_of := b_lasts_of,
    a_Editions_init := _, d_Editions_init := d_Editions_init, F_Editions_init := F_Editions_init, b_Editions_init := b_Editions_init,
    a_Editions_parting := _, d_Editions_parting := d_Editions_parting, F_Editions_parting := F_Editions_parting, b_Editions_parting := b_Editions_parting,
    a_Editions_steps_from := _, d_Editions_steps_from := d_Editions_steps_from, F_Editions_steps_from := F_Editions_steps_from, b_Editions_steps_from := b_Editions_steps_from,
    a_Editions_advance := _, d_Editions_advance := d_Editions_advance, F_Editions_advance := F_Editions_advance, b_Editions_advance := b_Editions_advance,
    a_same_days := _, d_same_days := d_same_days, F_same_days := F_same_days, b_same_days := b_same_days,
    a_l_hand := _, d_l_hand := d_l_hand, F_l_hand := F_l_hand, b_l_hand := b_l_hand,
    a_l_draw := _, d_l_draw := d_l_draw, F_l_draw := F_l_draw, b_l_draw := b_l_draw,
    a_l_sizes := _, d_l_sizes := d_l_sizes, F_l_sizes := F_l_sizes, b_l_sizes := b_l_sizes,
    a_l_moves := _, d_l_moves := d_l_moves, F_l_moves := F_l_moves, b_l_moves := b_l_moves,
    a_l_closings := _, d_l_closings := d_l_closings, F_l_closings := F_l_closings, b_l_closings := b_l_closings,
    a_l_office := _, d_l_office := d_l_office, F_l_office := F_l_office, b_l_office := b_l_office,
    a_l_behind := _, d_l_behind := d_l_behind, F_l_behind := F_l_behind, b_l_behind := b_l_behind,
    a_l_all_steps := _, d_l_all_steps := d_l_all_steps, F_l_all_steps := F_l_all_steps, b_l_all_steps := b_l_all_steps,
    a_l_closes := _, d_l_closes := d_l_closes, F_l_closes := F_l_closes, b_l_closes := b_l_closes,
    a_l_true := _, d_l_true := d_l_true, F_l_true := F_l_true, b_l_true := b_l_true,
    a_l_days := _, d_l_days := d_l_days, F_l_days := F_l_days, b_l_days := b_l_days,
    a_l_changed := _, d_l_changed := d_l_changed, F_l_changed := F_l_changed, b_l_changed := b_l_changed,
    a_l_ring_office := _, d_l_ring_office := d_l_ring_office, F_l_ring_office := F_l_ring_office, b_l_ring_office := b_l_ring_office,
    a_l_least_parting := _, d_l_least_parting := d_l_least_parting, F_l_least_parting := F_l_least_parting, b_l_least_parting := b_l_least_parting,
    a_l_two := _, d_l_two := d_l_two, F_l_two := F_l_two, b_l_two := b_l_two,
    a_law := _, d_law := d_law, F_law := F_law, b_law := b_law,
    t_MOST_SIZE := t_MOST_SIZE, g_MOST_SIZE := g_MOST_SIZE,
    t_MOST_STANDINGS := t_MOST_STANDINGS, g_MOST_STANDINGS := g_MOST_STANDINGS,
    t_MOST_SETS := t_MOST_SETS, g_MOST_SETS := g_MOST_SETS,
    t_DEAD := t_DEAD, g_DEAD := g_DEAD,
    a_Office := _,
    a_Reader := _,
    a_Editions := _,
    g_is_integer := He.glo_ok X G (c.fact 0 (f := .glo "is_integer") rfl),
    k_is_integer := F_is_integer.kp,
    g_is_within := He.glo_ok X G (c.fact 1 (f := .glo "is_within") rfl),
    k_is_within := F_is_within.kp,
    g_is_triple := He.glo_ok X G (c.fact 2 (f := .glo "is_triple") rfl),
    k_is_triple := F_is_triple.kp,
    g_are_ascending := He.glo_ok X G (c.fact 3 (f := .glo "are_ascending") rfl),
    k_are_ascending := F_are_ascending.kp,
    g_are_sizes := He.glo_ok X G (c.fact 4 (f := .glo "are_sizes") rfl),
    k_are_sizes := F_are_sizes.kp,
    g_is_move := He.glo_ok X G (c.fact 5 (f := .glo "is_move") rfl),
    k_is_move := F_is_move.kp,
    g_are_moves := He.glo_ok X G (c.fact 6 (f := .glo "are_moves") rfl),
    k_are_moves := F_are_moves.kp,
    g_are_closings := He.glo_ok X G (c.fact 7 (f := .glo "are_closings") rfl),
    k_are_closings := F_are_closings.kp,
    g_goals_of := He.glo_ok X G (c.fact 8 (f := .glo "goals_of") rfl),
    k_goals_of := F_goals_of.kp,
    g_all_steps := He.glo_ok X G (c.fact 9 (f := .glo "all_steps") rfl),
    k_all_steps := F_all_steps.kp,
    g_lasts_of := He.glo_ok X G (c.fact 10 (f := .glo "lasts_of") rfl),
    k_lasts_of := F_lasts_of.kp,
    g_same_days := He.glo_ok X G (c.fact 11 (f := .glo "same_days") rfl),
    k_same_days := F_same_days.kp,
    g_l_hand := He.glo_ok X G (c.fact 12 (f := .glo "_law_hand") rfl),
    k_l_hand := F_l_hand.kp,
    g_l_draw := He.glo_ok X G (c.fact 13 (f := .glo "_law_draw") rfl),
    k_l_draw := F_l_draw.kp,
    g_l_sizes := He.glo_ok X G (c.fact 14 (f := .glo "_law_sizes") rfl),
    k_l_sizes := F_l_sizes.kp,
    g_l_moves := He.glo_ok X G (c.fact 15 (f := .glo "_law_moves") rfl),
    k_l_moves := F_l_moves.kp,
    g_l_closings := He.glo_ok X G (c.fact 16 (f := .glo "_law_closings") rfl),
    k_l_closings := F_l_closings.kp,
    g_l_office := He.glo_ok X G (c.fact 17 (f := .glo "_law_office") rfl),
    k_l_office := F_l_office.kp,
    g_l_behind := He.glo_ok X G (c.fact 18 (f := .glo "_law_behind") rfl),
    k_l_behind := F_l_behind.kp,
    g_l_all_steps := He.glo_ok X G (c.fact 19 (f := .glo "_law_all_steps") rfl),
    k_l_all_steps := F_l_all_steps.kp,
    g_l_closes := He.glo_ok X G (c.fact 20 (f := .glo "_law_closes") rfl),
    k_l_closes := F_l_closes.kp,
    g_l_true := He.glo_ok X G (c.fact 21 (f := .glo "_law_true") rfl),
    k_l_true := F_l_true.kp,
    g_l_days := He.glo_ok X G (c.fact 22 (f := .glo "_law_days") rfl),
    k_l_days := F_l_days.kp,
    g_l_changed := He.glo_ok X G (c.fact 23 (f := .glo "_law_changed") rfl),
    k_l_changed := F_l_changed.kp,
    g_l_ring_office := He.glo_ok X G (c.fact 24 (f := .glo "_law_ring_office") rfl),
    k_l_ring_office := F_l_ring_office.kp,
    g_l_least_parting := He.glo_ok X G (c.fact 25 (f := .glo "_law_least_parting") rfl),
    k_l_least_parting := F_l_least_parting.kp,
    g_l_two := He.glo_ok X G (c.fact 26 (f := .glo "_law_two") rfl),
    k_l_two := F_l_two.kp,
    g_law := He.glo_ok X G (c.fact 27 (f := .glo "law") rfl),
    k_law := F_law.kp,
    n_abs := He.free_ok X G (c.fact 28 (f := .free "abs") rfl),
    n_all := He.free_ok X G (c.fact 29 (f := .free "all") rfl),
    n_any := He.free_ok X G (c.fact 30 (f := .free "any") rfl),
    n_bool := He.free_ok X G (c.fact 31 (f := .free "bool") rfl),
    n_int := He.free_ok X G (c.fact 32 (f := .free "int") rfl),
    n_isinstance := He.free_ok X G (c.fact 33 (f := .free "isinstance") rfl),
    n_len := He.free_ok X G (c.fact 34 (f := .free "len") rfl),
    n_list := He.free_ok X G (c.fact 35 (f := .free "list") rfl),
    n_min := He.free_ok X G (c.fact 36 (f := .free "min") rfl),
    n_range := He.free_ok X G (c.fact 37 (f := .free "range") rfl),
    n_repr := He.free_ok X G (c.fact 38 (f := .free "repr") rfl),
    n_sorted := He.free_ok X G (c.fact 39 (f := .free "sorted") rfl),
    n_tuple := He.free_ok X G (c.fact 40 (f := .free "tuple") rfl),
    n_zip := He.free_ok X G (c.fact 41 (f := .free "zip") rfl),
    g_Office := He.glo_ok X G (c.fact 46 (f := .glo "Office") rfl),
    c_Office := He.cls_ok (c.fact 47 (f := .cls "Office") rfl),
    m_Office := He.mkr_ok (c.fact 48 (f := .mkr "Office") rfl),
    f_Office_sizes := He.noat_ok (c.fact 49 (f := .noat "Office" "sizes") rfl),
    f_Office_moves := He.noat_ok (c.fact 50 (f := .noat "Office" "moves") rfl),
    f_Office_closings := He.noat_ok (c.fact 51 (f := .noat "Office" "closings") rfl),
    f_Office_kept_goals := He.noat_ok (c.fact 52 (f := .noat "Office" "kept_goals") rfl),
    t_Office_keep := He.meth_ok (c.fact 53 (f := .meth "Office" "keep") rfl),
    g_Reader := He.glo_ok X G (c.fact 54 (f := .glo "Reader") rfl),
    c_Reader := He.cls_ok (c.fact 55 (f := .cls "Reader") rfl),
    m_Reader := He.mkr_ok (c.fact 56 (f := .mkr "Reader") rfl),
    f_Reader_table := He.noat_ok (c.fact 57 (f := .noat "Reader" "table") rfl),
    f_Reader_shut := He.noat_ok (c.fact 58 (f := .noat "Reader" "shut") rfl),
    f_Reader_kept_sets := He.noat_ok (c.fact 59 (f := .noat "Reader" "kept_sets") rfl),
    t_Reader_behind := He.meth_ok (c.fact 60 (f := .meth "Reader" "behind") rfl),
    t_Reader_closes := He.meth_ok (c.fact 61 (f := .meth "Reader" "closes") rfl),
    g_Editions := He.glo_ok X G (c.fact 62 (f := .glo "Editions") rfl),
    c_Editions := He.cls_ok (c.fact 63 (f := .cls "Editions") rfl),
    m_Editions := He.mkr_ok (c.fact 64 (f := .mkr "Editions") rfl),
    f_Editions_readers := He.noat_ok (c.fact 65 (f := .noat "Editions" "readers") rfl),
    f_Editions_marks := He.noat_ok (c.fact 66 (f := .noat "Editions" "marks") rfl),
    f_Editions_met := He.noat_ok (c.fact 67 (f := .noat "Editions" "met") rfl),
    f_Editions_layer := He.noat_ok (c.fact 68 (f := .noat "Editions" "layer") rfl),
    t_Editions_parting := He.meth_ok (c.fact 69 (f := .meth "Editions" "parting") rfl),
    t_Editions_steps_from := He.meth_ok (c.fact 70 (f := .meth "Editions" "steps_from") rfl),
    t_Editions_advance := He.meth_ok (c.fact 71 (f := .meth "Editions" "advance") rfl)
  }, trivial⟩
theorem err_of {K : PySem.W.Frag} {h : Heap} {mg : Str → Option Value} (X : K.In h) (G : h.Ns mainGlobals mg) (c : SaysX faL fnL sdL xsL K) : ∃ Er : Err PySem.Challenge.pw_falsedays_k80_whole_where_editions_part K mg, True := by
  obtain ⟨cc_TooMany, ca_TooMany, su_TooMany, fd_TooMany, doc_TooMany, pm_TooMany, ctv_TooMany, efd_TooMany, oc_TooMany, od_TooMany, osl_TooMany, lk_TooMany⟩ := supI_of (P := PySem.Challenge.pw_falsedays_k80_whole_where_editions_part) (by decide +kernel) (c.sup 0 (d := D_TooMany) rfl).2 (c.sup 0 (d := D_TooMany) rfl).1
  refine ⟨{
    a_FalseError := He.ga K "FalseError",
    a_OtherSizes := He.ga K "OtherSizes",
    a_TooMany := He.ga K "TooMany",
    f_TooMany := iAd K "TooMany",
    cc_TooMany := cc_TooMany,
    ca_TooMany := ca_TooMany,
    d_TooMany_init := fd_TooMany,
    g_FalseError := He.glo_ok X G (c.d.fact 72 (f := .glo "FalseError") rfl),
    g_OtherSizes := He.glo_ok X G (c.d.fact 73 (f := .glo "OtherSizes") rfl),
    g_TooMany := He.glo_ok X G (c.d.fact 74 (f := .glo "TooMany") rfl),
    n_super := He.free_ok X G (c.d.fact 75 (f := .free "super") rfl),
    x_OtherSizes := (c.fact 0 rfl),
    k_OtherSizes := (c.fact 1 rfl),
    s_OtherSizes := (of_decide_eq_true (c.fact 2 rfl)),
    t_OtherSizes := (of_decide_eq_true (c.fact 3 rfl)),
    u_TooMany := su_TooMany,
    fd_TooMany := ⟨doc_TooMany, pm_TooMany, ctv_TooMany, efd_TooMany, oc_TooMany, od_TooMany, osl_TooMany, lk_TooMany⟩,
    i_TooMany := (of_decide_eq_true (c.fact 4 rfl)),
    t_TooMany := (of_decide_eq_true (c.fact 5 rfl)),
    no_TooMany := (of_decide_eq_true (c.fact 6 rfl)),
    b_TooMany_init := by rw [efd_TooMany]; exact .all fun us hl => match us, hl with | [_, _], _ => rfl }, ?_⟩
  trivial
end Fd
set_option Elab.async false
set_option linter.all false
set_option maxRecDepth 100000
set_option maxHeartbeats 0
namespace Fd
open PySem PySem.Spec PyProof.Rows L2
theorem law_binds {K : PySem.W.Frag} {f : Addr} {fd : FuncData} (F : Fun K "law" "law" s_law f fd) (s : Shared) (u : Value) : BindsTo s fd ⟨[u], []⟩ [("_law_script", u)] := by
  obtain ⟨oc, od, kV, doc, pm, an, cdv, ct, osl, e, l, c⟩ := F.ex
  subst e
  exact .of_eq rfl
end Fd
open PySem PySem.W PySem.Calls PyProof.Rows
theorem PySem.Challenge.cw_falsedays_k80_whole_where_editions_part_holds : PySem.Challenge.rw_falsedays_k80_whole_where_editions_part.Holds := by
  w_on; o_law
  refine HandSHeadRun.head_any (r := OpenLaw.row PySem.Challenge.rw_falsedays_k80_whole_where_editions_part) (q := view (OpenLaw.row PySem.Challenge.rw_falsedays_k80_whole_where_editions_part).prog [45]) (H := Fd.hkk) (ob := Fd.obb) (M := 6000) (loose := Fd.looseL)
    (d := HandSHeadRun.topDef (OpenLaw.row PySem.Challenge.rw_falsedays_k80_whole_where_editions_part).prog 45) (kwd := []) Fd.obb_eq (by kernel_rfl) (fun s => by kernel_rfl) Fd.runn (by kernel_rfl) (by kernel_rfl) (by kernel_rfl) (by rfl) (by first | assumption | decide +kernel) (by decide +kernel) ⟨rfl, rfl, rfl, rfl, rfl, by decide +kernel⟩ ?hw ?hc
  case hw => w_witness2
  case hc =>
    refine Fd.walk_at (l := PySem.Challenge.rw_falsedays_k80_whole_where_editions_part) (n := 63) (x := "_law_script") rfl (by decide) (by kernel_rfl) ?F
    intro w mg fa h Y G hmg0
    obtain ⟨K, KX, c⟩ := Y
    have hmg : mg ("law" : PySem.Str) = some (.ref fa) := by
      have e : (HandSHeadRun.topDef (OpenLaw.row PySem.Challenge.rw_falsedays_k80_whole_where_editions_part).prog 45).name = ("law" : PySem.Str) := by kernel_rfl
      rw [← e]
      exact hmg0
    obtain ⟨T, _⟩ := Fd.txt_of KX G c.d
    obtain ⟨Er, Eq⟩ := Fd.err_of KX G c
    have e := hmg.symm.trans T.g_law
    cases e
    exact ⟨K, T.d_law, Fd.sp_law K, KX, Fd.law_binds T.F_law, fun H a ns hl _ hS => ⟨a, ns, rfl, hS, hl, fun _ => rfl⟩, fun base _ _ => Fd.ok_law T Er (by decide +kernel)⟩
