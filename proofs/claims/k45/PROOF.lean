import PyProof.Rows.All
import Wide.All
import OpenK.AllK
import Wide.FinOn
import PySem.Challenge.RW_onemore_k45_yards_standings_days_written
import HandS.ForMost
import HandS.Exc
import HandS.HeadHook2
import HandS.TupAny
import HandS.Wide
import HandS.IsInst
import HandS.Conv
import HandS.Deep
import HandS.TupMul
import HandS.TryOnly
import HandS.Walk
import HandS.WordsExc
import HandS.Text
import HandS.RaiseMore
import HandS.ExcOwn
import HandS.HeadEnd
import HandS.EndBits
import HandS.Head2
import HandS.HeadHook4
import HandS.Zip
import HandS.SetFor
import PyProof.ReprLen
set_option Elab.async false
set_option autoImplicit false
set_option linter.all false
set_option maxRecDepth 100000
set_option maxHeartbeats 0
section
namespace Md
open PySem PySem.Spec PyProof.Rows L2

abbrev Sg := L2.St
/-! ## pure data, own references, stores -/
inductive D where
  | non | bl (b : Bool) | int (i : Int) | str (s : Str) | tup (ds : List D) | lst (ds : List D) | dct (kvs : List (D × D)) | adr (a : Addr)
instance : Inhabited D := ⟨.non⟩
inductive S where
  | v (d : D) | r (n : Nat)
inductive MO where
  | lst (xs : List S) | dct (kvs : List (D × S)) | ins (c : Str) (fs : List (Str × S))
abbrev Rho := List (Option S)
abbrev Mh := List (Option MO)
/-- an exception: its class's name, the field many -/
structure Xc where
  c : Str
  many : Option Int
def kD : Key → D
  | .inl i => .int i
  | .inr x => .str x

/-! ## what stands for it -/
def KL (K : PySem.W.Frag) (a : Addr) (xs : List V) : Prop :=
  ∃ (ob : Obj) (ar : Array Value) (ep : Nat), K.lookup a = some ob ∧ ob.cls = .type "list" ∧ ob.dict = none ∧ ob.data = .seq ar ep ∧ ar.size ≤ sizeLine ∧ Vals xs ar.toList
def KT (K : PySem.W.Frag) (a : Addr) (xs : List V) : Prop :=
  ∃ (ob : Obj) (ar : Array Value) (ep : Nat), K.lookup a = some ob ∧ ob.cls = .type "tuple" ∧ ob.data = .seq ar ep ∧ ar.size ≤ sizeLine ∧ Vals xs ar.toList
def SqLw (K : PySem.W.Frag) (W : Addr → Prop) (H : Hp) (a : Addr) (xs : List V) : Prop := (¬ W a ∧ Rd H a (.lst xs)) ∨ KL K a xs
def SqTw (K : PySem.W.Frag) (W : Addr → Prop) (H : Hp) (a : Addr) (xs : List V) : Prop := (¬ W a ∧ Rd H a (.tup xs)) ∨ KT K a xs
theorem SqLw.sq {K : PySem.W.Frag} {W : Addr → Prop} {H : Hp} {a : Addr} {xs : List V} (h : SqLw K W H a xs) : SqL K H a xs := by
  rcases h with ⟨_, h⟩ | h
  · exact .inl h
  · exact .inr h
theorem SqTw.sq {K : PySem.W.Frag} {W : Addr → Prop} {H : Hp} {a : Addr} {xs : List V} (h : SqTw K W H a xs) : SqT K H a xs := by
  rcases h with ⟨_, h⟩ | h
  · exact .inl h
  · exact .inr h
mutual
inductive RV (K : PySem.W.Frag) (W : Addr → Prop) (H : Hp) : D → V → Prop
  | non : RV K W H .non .non
  | bl (b : Bool) : RV K W H (.bl b) (.bl b)
  | int (i : Int) : RV K W H (.int i) (.int i)
  | str (s : Str) : RV K W H (.str s) (.str s)
  | adr (a : Addr) : RV K W H (.adr a) (.ref a)
  | tup {ds : List D} {a : Addr} {vs : List V} : SqTw K W H a vs → RVs K W H ds vs → RV K W H (.tup ds) (.ref a)
  | lst {ds : List D} {a : Addr} {vs : List V} : SqLw K W H a vs → RVs K W H ds vs → RV K W H (.lst ds) (.ref a)
  | dK {kvs : List (D × D)} {a : Addr} {ks : List Key} {vs : List V} : ¬ W a → H a = some (.dK (ks.zip vs)) → ks.length = vs.length → kvs.map (·.1) = ks.map kD → RVs K W H (kvs.map (·.2)) vs → RV K W H (.dct kvs) (.ref a)
  | dT {kvs : List (D × D)} {a : Addr} {ks : List (List Key)} {vs : List V} : ¬ W a → H a = some (.dT (ks.zip vs)) → ks.length = vs.length → kvs.map (·.1) = ks.map (fun k => .tup (k.map kD)) → RVs K W H (kvs.map (·.2)) vs → RV K W H (.dct kvs) (.ref a)
inductive RVs (K : PySem.W.Frag) (W : Addr → Prop) (H : Hp) : List D → List V → Prop
  | nil : RVs K W H [] []
  | cons {d : D} {ds : List D} {v : V} {vs : List V} : RV K W H d v → RVs K W H ds vs → RVs K W H (d :: ds) (v :: vs)
end
def RS (K : PySem.W.Frag) (W : Addr → Prop) (φ : List (Option Addr)) (H : Hp) : S → V → Prop
  | .v d, x => RV K W H d x
  | .r n, x => ∃ y, φ[n]? = some y ∧ ∀ a, y = some a → x = .ref a
abbrev RSs (K : PySem.W.Frag) (W : Addr → Prop) (φ : List (Option Addr)) (H : Hp) : List S → List V → Prop := Paired (RS K W φ H)
def ROO (K : PySem.W.Frag) (W : Addr → Prop) (φ : List (Option Addr)) (H : Hp) : MO → HO → Prop
  | .lst xs, .lst vs => RSs K W φ H xs vs
  | .dct kvs, .dK ks => Paired (fun (p : D × S) (q : Key × V) => p.1 = kD q.1 ∧ RS K W φ H p.2 q.2) kvs ks
  | .dct kvs, .dT ks => Paired (fun (p : D × S) (q : List Key × V) => p.1 = .tup (q.1.map kD) ∧ RS K W φ H p.2 q.2) kvs ks
  | .ins c fs, .ins C _ gs => C = He.ga K c ∧ Paired (fun (p : Str × S) (q : Str × V) => p.1 = q.1 ∧ RS K W φ H p.2 q.2) fs gs
  | _, _ => False
def XR (K : PySem.W.Frag) (x : Xc) (cls : Value) (d : Option Addr) (H : Hp) : Prop :=
  cls = .ref (He.ga K x.c) ∧ match x.many with
    | none => d = none
    | some n => ∃ e, d = some e ∧ H e = some (.xd [("many", .int n)])

/-- what is not own stays -/
structure Stw (W : Addr → Prop) (H : Hp) (W' : Addr → Prop) (H' : Hp) : Prop where
  w : ∀ a, W' a → W a ∨ H a = none
  h : ∀ a o, ¬ W a → H a = some o → H' a = some o
theorem Stw.refl {W : Addr → Prop} {H : Hp} : Stw W H W H := ⟨fun _ h => .inl h, fun _ _ _ h => h⟩
theorem Stw.trans {W W1 W2 : Addr → Prop} {H H1 H2 : Hp} (a : Stw W H W1 H1) (b : Stw W1 H1 W2 H2) : Stw W H W2 H2 := by
  have hw : ∀ c, W2 c → W c ∨ H c = none := fun c z => by
    rcases b.w c z with z | z
    · exact a.w c z
    · cases e : H c with
      | none => exact .inr rfl
      | some o =>
        refine .inl (Classical.byContradiction fun n => ?_)
        rw [a.h c o n e] at z
        cases z
  refine ⟨hw, fun c o n e => ?_⟩
  have e1 := a.h c o n e
  refine b.h c o (fun z => ?_) e1
  rcases a.w c z with z | z
  · exact n z
  · rw [e] at z
    cases z
/-- the state of one running def goes on -/
structure Stb (W : Addr → Prop) (φ : List (Option Addr)) (H : Hp) (W' : Addr → Prop) (φ' : List (Option Addr)) (H' : Hp) : Prop where
  tw : Stw W H W' H'
  p : ∀ (n : Nat) (x : Option Addr), φ[n]? = some x → φ'[n]? = some x
  f : ∀ a o, (∀ (n : Nat), φ[n]? ≠ some (some a)) → H a = some o → H' a = some o
  n : ∀ (n : Nat) (a : Addr), φ'[n]? = some (some a) → φ[n]? = some (some a) ∨ H a = none
  d : ∀ a o, H a = some o → ∃ o', H' a = some o'
  m : ∀ a, W a → W' a
theorem Stb.w {W W' : Addr → Prop} {φ φ' : List (Option Addr)} {H H' : Hp} (s : Stb W φ H W' φ' H') : ∀ a, W' a → W a ∨ H a = none := s.tw.w
theorem Stb.h {W W' : Addr → Prop} {φ φ' : List (Option Addr)} {H H' : Hp} (s : Stb W φ H W' φ' H') : ∀ a o, ¬ W a → H a = some o → H' a = some o := s.tw.h
theorem Stb.refl {W : Addr → Prop} {φ : List (Option Addr)} {H : Hp} : Stb W φ H W φ H := ⟨Stw.refl, fun _ _ h => h, fun _ _ _ h => h, fun _ _ h => .inl h, fun _ o h => ⟨o, h⟩, fun _ h => h⟩
theorem Stb.trans {W W1 W2 : Addr → Prop} {φ φ1 φ2 : List (Option Addr)} {H H1 H2 : Hp} (a : Stb W φ H W1 φ1 H1) (b : Stb W1 φ1 H1 W2 φ2 H2) : Stb W φ H W2 φ2 H2 := by
  refine ⟨a.tw.trans b.tw, fun n x e => b.p n x (a.p n x e), fun c o n e => b.f c o (fun m z => ?_) (a.f c o n e), fun n c e => ?_, fun c o e => ?_, fun c z => b.m c (a.m c z)⟩
  · rcases a.n m c z with q | q
    · exact n m q
    · rw [e] at q
      cases q
  · rcases b.n n c e with q | q
    · exact a.n n c q
    · cases g : H c with
      | none => exact .inr rfl
      | some o =>
        obtain ⟨o', g'⟩ := a.d c o g
        rw [q] at g'
        cases g'
  · obtain ⟨o1, e1⟩ := a.d c o e
    exact b.d c o1 e1
section
variable {K : PySem.W.Frag} {W W' : Addr → Prop} {φ φ' : List (Option Addr)} {H H' : Hp}
theorem SqLw.stw (st : Stw W H W' H') {a : Addr} {xs : List V} (h : SqLw K W H a xs) : SqLw K W' H' a xs := by
  rcases h with ⟨n, h⟩ | h
  · have key : ∀ o, H a = some o → ¬ W' a ∧ H' a = some o := fun o e => ⟨fun z => (st.w a z).elim n (fun z => by rw [e] at z; cases z), st.h a o n e⟩
    rcases h with h | ⟨o, h⟩
    · exact .inl ⟨(key _ h).1, .inl (key _ h).2⟩
    · exact .inl ⟨(key _ h).1, .inr ⟨o, (key _ h).2⟩⟩
  · exact .inr h
theorem SqTw.stw (st : Stw W H W' H') {a : Addr} {xs : List V} (h : SqTw K W H a xs) : SqTw K W' H' a xs := by
  rcases h with ⟨n, h⟩ | h
  · have key : ∀ o, H a = some o → ¬ W' a ∧ H' a = some o := fun o e => ⟨fun z => (st.w a z).elim n (fun z => by rw [e] at z; cases z), st.h a o n e⟩
    rcases h with h | ⟨o, h⟩
    · exact .inl ⟨(key _ h).1, .inl (key _ h).2⟩
    · exact .inl ⟨(key _ h).1, .inr ⟨o, (key _ h).2⟩⟩
  · exact .inr h
mutual
theorem RV.stw (st : Stw W H W' H') : ∀ {d : D} {x : V}, RV K W H d x → RV K W' H' d x
  | _, _, .non => .non
  | _, _, .bl b => .bl b
  | _, _, .int i => .int i
  | _, _, .str s => .str s
  | _, _, .adr a => .adr a
  | _, _, .tup h r => .tup (h.stw st) (RVs.stw st r)
  | _, _, .lst h r => .lst (h.stw st) (RVs.stw st r)
  | _, _, .dK n h l e r => .dK (fun z => (st.w _ z).elim n (fun z => by rw [h] at z; cases z)) (st.h _ _ n h) l e (RVs.stw st r)
  | _, _, .dT n h l e r => .dT (fun z => (st.w _ z).elim n (fun z => by rw [h] at z; cases z)) (st.h _ _ n h) l e (RVs.stw st r)
theorem RVs.stw (st : Stw W H W' H') : ∀ {ds : List D} {xs : List V}, RVs K W H ds xs → RVs K W' H' ds xs
  | _, _, .nil => .nil
  | _, _, .cons h r => .cons (RV.stw st h) (RVs.stw st r)
end
theorem RV.stb (st : Stb W φ H W' φ' H') {d : D} {x : V} (h : RV K W H d x) : RV K W' H' d x := RV.stw st.tw h
theorem RVs.stb (st : Stb W φ H W' φ' H') {ds : List D} {xs : List V} (h : RVs K W H ds xs) : RVs K W' H' ds xs := RVs.stw st.tw h
theorem RS.stb (st : Stb W φ H W' φ' H') {s : S} {x : V} (h : RS K W φ H s x) : RS K W' φ' H' s x := by
  cases s with
  | v d => exact RV.stb st h
  | r n =>
    obtain ⟨y, e, q⟩ := h
    exact ⟨y, st.p n y e, q⟩
theorem RSs.stb (st : Stb W φ H W' φ' H') {ss : List S} {xs : List V} (h : RSs K W φ H ss xs) : RSs K W' φ' H' ss xs := Paired.mapP h fun _ _ q => q.stb st
theorem ROO.stb (st : Stb W φ H W' φ' H') {m : MO} {o : HO} (h : ROO K W φ H m o) : ROO K W' φ' H' m o := by
  cases m with
  | lst xs => cases o <;> first | exact RSs.stb st h | exact h.elim
  | dct kvs => cases o <;> first | exact Paired.mapP h fun _ _ q => ⟨q.1, q.2.stb st⟩ | exact h.elim
  | ins c fs => cases o <;> first | exact ⟨h.1, Paired.mapP h.2 fun _ _ q => ⟨q.1, q.2.stb st⟩⟩ | exact h.elim
theorem RVs.pair : ∀ {ds : List D} {vs : List V}, RVs K W H ds vs → Paired (RV K W H) ds vs
  | _, _, .nil => .nil
  | _, _, .cons h r => .cons h (RVs.pair r)
theorem RVs.of_pair : ∀ {ds : List D} {vs : List V}, Paired (RV K W H) ds vs → RVs K W H ds vs
  | _, _, .nil => .nil
  | _, _, .cons h r => .cons h (RVs.of_pair r)
theorem RVs.length {ds : List D} {vs : List V} (h : RVs K W H ds vs) : ds.length = vs.length := Paired.length h.pair
/-- less is own -/
theorem RV.lessW (hw : ∀ a, W' a → W a) {d : D} {x : V} (h : RV K W H d x) : RV K W' H d x := RV.stw ⟨fun a z => .inl (hw a z), fun _ _ _ e => e⟩ h
end

/-! ## a def's base, its state -/
structure Bs where
  W0 : Addr → Prop
  H0 : Hp
  p0 : List Addr
structure SI (K : PySem.W.Frag) (B : Bs) (W : Addr → Prop) (φ : List (Option Addr)) (ρ : Rho) (M : Mh) (σ : Sg) (H : Hp) : Prop where
  len : φ.length = M.length
  inj : ∀ (i j : Nat) (a : Addr), φ[i]? = some (some a) → φ[j]? = some (some a) → i = j
  own : ∀ (i : Nat) (a : Addr), φ[i]? = some (some a) → W a
  trk : ∀ a, W a → ∃ o, H a = some o
  obj : ∀ (n : Nat) (o : MO), M[n]? = some (some o) → ∃ a ho, φ[n]? = some (some a) ∧ H a = some ho ∧ ROO K W φ H o ho
  w0 : ∀ a, B.W0 a → W a
  wn : ∀ a, W a → B.W0 a ∨ B.H0 a = none
  fr : ∀ a o, B.H0 a = some o → a ∉ B.p0 → H a = some o
  k0 : ∀ (i : Nat) (a : Addr), B.p0[i]? = some a → φ[i]? = some (some a)
  kn : ∀ (i : Nat) (a : Addr), B.p0.length ≤ i → φ[i]? = some (some a) → B.H0 a = none
  slots : ∀ (i : Nat) (s : S), ρ[i]? = some (some s) → ∃ x, σ[i]? = some (some x) ∧ RS K W φ H s x
  slen : ρ.length = σ.length
  wb : ∀ a, B.W0 a → ∃ o, B.H0 a = some o
  pw : ∀ a ∈ B.p0, B.W0 a
section
variable {K : PySem.W.Frag} {B : Bs} {W : Addr → Prop} {φ : List (Option Addr)} {ρ : Rho} {M : Mh} {σ : Sg} {H : Hp}
theorem SI.fresh (I : SI K B W φ ρ M σ H) {p : Addr} (hp : H p = none) : ¬ W p := fun z => by
  obtain ⟨o, e⟩ := I.trk p z
  rw [hp] at e
  cases e
/-- a new frozen object -/
theorem SI.stbNew (I : SI K B W φ ρ M σ H) {p : Addr} {o : HO} (hp : H p = none) : Stb W φ H W φ (upd H p o) :=
  ⟨⟨fun _ z => .inl z, fun a u _ e => by rw [upd_ne (ne_of_none e hp)]; exact e⟩, fun _ _ e => e, fun a u _ e => by rw [upd_ne (ne_of_none e hp)]; exact e, fun _ _ e => .inl e, fun a u e => ⟨u, by rw [upd_ne (ne_of_none e hp)]; exact e⟩, fun _ z => z⟩
theorem SI.new (I : SI K B W φ ρ M σ H) {p : Addr} {o : HO} (hp : H p = none) : SI K B W φ ρ M σ (upd H p o) := by
  have st : Stb W φ H W φ (upd H p o) := I.stbNew hp
  refine ⟨I.len, I.inj, I.own, fun a z => ?_, fun n m e => ?_, I.w0, I.wn, fun a u e na => ?_, I.k0, I.kn, fun i s e => ?_, I.slen, I.wb, I.pw⟩
  · obtain ⟨u, e⟩ := I.trk a z
    exact ⟨u, by rw [upd_ne (ne_of_none e hp)]; exact e⟩
  · obtain ⟨a, ho, e1, e2, e3⟩ := I.obj n m e
    exact ⟨a, ho, e1, by rw [upd_ne (ne_of_none e2 hp)]; exact e2, e3.stb st⟩
  · have e1 := I.fr a u e na
    rw [upd_ne (ne_of_none e1 hp)]
    exact e1
  · obtain ⟨x, e1, e2⟩ := I.slots i s e
    exact ⟨x, e1, e2.stb st⟩
theorem SI.newTup (I : SI K B W φ ρ M σ H) {p : Addr} {ds : List D} {vs : List V} (hp : H p = none) (r : RVs K W H ds vs) : RV K W (upd H p (.tup vs)) (.tup ds) (.ref p) :=
  .tup (.inl ⟨I.fresh hp, .inl upd_same⟩) (r.stb (I.stbNew hp))
theorem SI.newLst (I : SI K B W φ ρ M σ H) {p : Addr} {ds : List D} {vs : List V} (hp : H p = none) (r : RVs K W H ds vs) : RV K W (upd H p (.lst vs)) (.lst ds) (.ref p) :=
  .lst (.inl ⟨I.fresh hp, .inl upd_same⟩) (r.stb (I.stbNew hp))
/-- a new own object -/
theorem SI.stbOwn (I : SI K B W φ ρ M σ H) {p : Addr} {o : HO} (hp : H p = none) : Stb W φ H (fun a => W a ∨ a = p) (φ ++ [some p]) (upd H p o) :=
  ⟨⟨fun a z => z.elim .inl fun z => .inr (by rw [z]; exact hp), fun a u _ e => by rw [upd_ne (ne_of_none e hp)]; exact e⟩, fun n x e => by
    rw [List.getElem?_append_left (List.getElem?_eq_some_iff.mp e).1]
    exact e, fun a u _ e => by rw [upd_ne (ne_of_none e hp)]; exact e, fun n a e => (by
    rcases Nat.lt_or_ge n φ.length with h | h
    · rw [List.getElem?_append_left h] at e
      exact .inl e
    · rw [List.getElem?_append_right h] at e
      rcases Nat.eq_or_lt_of_le h with q | q
      · rw [← q, Nat.sub_self] at e
        exact .inr (by rw [← Option.some.inj (Option.some.inj e)]; exact hp)
      · rw [List.getElem?_eq_none (by simp; omega)] at e
        cases e), fun a u e => ⟨u, by rw [upd_ne (ne_of_none e hp)]; exact e⟩, fun _ z => .inl z⟩
theorem SI.newOwn (I : SI K B W φ ρ M σ H) {p : Addr} {ho : HO} {o : MO} (hp : H p = none) (hb : B.H0 p = none) (r : ROO K W φ H o ho) : SI K B (fun a => W a ∨ a = p) (φ ++ [some p]) ρ (M ++ [some o]) σ (upd H p ho) := by
  have st := I.stbOwn (o := ho) hp
  have at_ : ∀ (i : Nat) (a : Addr), (φ ++ [some p])[i]? = some (some a) → (φ[i]? = some (some a)) ∨ (i = φ.length ∧ a = p) := fun i a e => by
    rcases Nat.lt_or_ge i φ.length with h | h
    · rw [List.getElem?_append_left h] at e
      exact .inl e
    · rw [List.getElem?_append_right h] at e
      rcases Nat.eq_or_lt_of_le h with q | q
      · rw [← q, Nat.sub_self] at e
        exact .inr ⟨q.symm, (Option.some.inj (Option.some.inj e)).symm⟩
      · rw [List.getElem?_eq_none (by simp; omega)] at e
        cases e
  refine ⟨by simp [I.len], fun i j a e1 e2 => ?_, fun i a e => ?_, fun a z => ?_, fun n m e => ?_, fun a z => .inl (I.w0 a z), fun a z => ?_, fun a u e na => ?_, fun i a e => ?_, fun i a h e => ?_, fun i s e => ?_, I.slen, I.wb, I.pw⟩
  · rcases at_ i a e1 with q1 | ⟨q1, q2⟩ <;> rcases at_ j a e2 with q3 | ⟨q3, q4⟩
    · exact I.inj i j a q1 q3
    · exact absurd (I.own i a q1) (by rw [q4]; exact I.fresh hp)
    · exact absurd (I.own j a q3) (by rw [q2]; exact I.fresh hp)
    · rw [q1, q3]
  · rcases at_ i a e with q | ⟨_, q⟩
    · exact .inl (I.own i a q)
    · exact .inr q
  · by_cases q : a = p
    · rw [q]
      exact ⟨ho, upd_same⟩
    · obtain ⟨u, e⟩ := I.trk a (z.resolve_right q)
      exact ⟨u, by rw [upd_ne q]; exact e⟩
  · rcases Nat.lt_or_ge n M.length with h | h
    · rw [List.getElem?_append_left h] at e
      obtain ⟨a, hu, e1, e2, e3⟩ := I.obj n m e
      exact ⟨a, hu, st.p _ _ e1, by rw [upd_ne (ne_of_none e2 hp)]; exact e2, e3.stb st⟩
    · rw [List.getElem?_append_right h] at e
      rcases Nat.eq_or_lt_of_le h with q | q
      · rw [← q, Nat.sub_self] at e
        have e' : o = m := Option.some.inj (Option.some.inj e)
        subst e'
        refine ⟨p, ho, ?_, upd_same, r.stb st⟩
        rw [← q, ← I.len]
        simp
      · rw [List.getElem?_eq_none (by simp; omega)] at e
        cases e
  · rcases z with z | z
    · exact I.wn a z
    · exact .inr (by rw [z]; exact hb)
  · have e1 := I.fr a u e na
    rw [upd_ne (ne_of_none e1 hp)]
    exact e1
  · exact st.p _ _ (I.k0 i a e)
  · rcases at_ i a e with q | ⟨_, q⟩
    · exact I.kn i a h q
    · rw [q]
      exact hb
  · obtain ⟨x, e1, e2⟩ := I.slots i s e
    exact ⟨x, e1, e2.stb st⟩
/-- nothing of the entry stands at a place that is free now -/
theorem SI.free0 (I : SI K B W φ ρ M σ H) (hp0 : ∀ a ∈ B.p0, ∃ o, H a = some o) {p : Addr} (hp : H p = none) : B.H0 p = none := by
  cases e : B.H0 p with
  | none => rfl
  | some o =>
    by_cases q : p ∈ B.p0
    · obtain ⟨u, e2⟩ := hp0 p q
      rw [hp] at e2
      cases e2
    · rw [I.fr p o e q] at hp
      cases hp
theorem SI.p0At (I : SI K B W φ ρ M σ H) : ∀ a ∈ B.p0, ∃ o, H a = some o := fun a h => by
  obtain ⟨i, h1, e⟩ := List.getElem_of_mem h
  exact I.trk a (I.own i a (I.k0 i a (by rw [List.getElem?_eq_getElem h1, e])))
theorem SI.free (I : SI K B W φ ρ M σ H) {p : Addr} (hp : H p = none) : B.H0 p = none := I.free0 I.p0At hp
/-- an own object is written -/
theorem SI.stbWr (I : SI K B W φ ρ M σ H) {n : Nat} {a : Addr} {o : HO} (ha : φ[n]? = some (some a)) : Stb W φ H W φ (upd H a o) :=
  ⟨⟨fun _ z => .inl z, fun b u nb e => by rw [upd_ne (fun z => nb (by rw [z]; exact I.own n a ha))]; exact e⟩, fun _ _ e => e, fun b u nb e => by rw [upd_ne (fun z => nb n (by rw [z]; exact ha))]; exact e, fun _ _ e => .inl e, fun b u e => by
    by_cases q : b = a
    · exact ⟨o, by rw [q]; exact upd_same⟩
    · exact ⟨u, by rw [upd_ne q]; exact e⟩, fun _ z => z⟩
theorem SI.write (I : SI K B W φ ρ M σ H) {n : Nat} {a : Addr} {ho : HO} {o : MO} (ha : φ[n]? = some (some a)) (r : ROO K W φ H o ho) : SI K B W φ ρ (M.set n (some o)) σ (upd H a ho) := by
  have st := I.stbWr (o := ho) ha
  have hn : n < M.length := by rw [← I.len]; exact (List.getElem?_eq_some_iff.mp ha).1
  refine ⟨by simp [I.len], I.inj, I.own, fun b z => ?_, fun i m e => ?_, I.w0, I.wn, fun b u e nb => ?_, I.k0, I.kn, fun i s e => ?_, I.slen, I.wb, I.pw⟩
  · by_cases q : b = a
    · rw [q]
      exact ⟨ho, upd_same⟩
    · obtain ⟨u, e⟩ := I.trk b z
      exact ⟨u, by rw [upd_ne q]; exact e⟩
  · by_cases q : n = i
    · subst q
      rw [List.getElem?_set_self hn] at e
      have e' : o = m := Option.some.inj (Option.some.inj e)
      subst e'
      exact ⟨a, ho, ha, upd_same, r.stb st⟩
    · rw [List.getElem?_set_ne q] at e
      obtain ⟨b, hu, e1, e2, e3⟩ := I.obj i m e
      exact ⟨b, hu, e1, by rw [upd_ne (fun z => q (I.inj n i a ha (by rw [← z]; exact e1)))]; exact e2, e3.stb st⟩
  · have e1 := I.fr b u e nb
    by_cases q : b = a
    · subst q
      rcases Nat.lt_or_ge n B.p0.length with h | h
      · have e2 := I.k0 n B.p0[n] (List.getElem?_eq_getElem h)
        rw [ha] at e2
        have e3 : b = B.p0[n] := Option.some.inj (Option.some.inj e2)
        exact absurd (List.getElem_mem h) (by rw [← e3]; exact nb)
      · have e2 := I.kn n b h ha
        rw [e] at e2
        cases e2
    · rw [upd_ne q]
      exact e1
  · obtain ⟨x, e1, e2⟩ := I.slots i s e
    exact ⟨x, e1, e2.stb st⟩
/-- a name is stored -/
theorem SI.set (I : SI K B W φ ρ M σ H) {i : Nat} {s : S} {x : V} (r : RS K W φ H s x) : SI K B W φ (ρ.set i (some s)) M (σ.set i (some x)) H := by
  refine ⟨I.len, I.inj, I.own, I.trk, I.obj, I.w0, I.wn, I.fr, I.k0, I.kn, fun j t e => ?_, by simp [I.slen], I.wb, I.pw⟩
  by_cases q : i = j
  · subst q
    by_cases h : i < ρ.length
    · rw [List.getElem?_set_self h] at e
      have e' : s = t := Option.some.inj (Option.some.inj e)
      subst e'
      exact ⟨x, List.getElem?_set_self (by rw [← I.slen]; exact h), r⟩
    · rw [List.getElem?_eq_none (by simpa using h)] at e
      cases e
  · rw [List.getElem?_set_ne q] at e
    obtain ⟨y, e1, e2⟩ := I.slots j t e
    exact ⟨y, by rw [List.getElem?_set_ne q]; exact e1, e2⟩
/-- slots are forgotten -/
theorem SI.less (I : SI K B W φ ρ M σ H) {ρ' : Rho} (hl : ρ'.length = ρ.length) (h : ∀ (i : Nat) (s : S), ρ'[i]? = some (some s) → ρ[i]? = some (some s)) : SI K B W φ ρ' M σ H :=
  ⟨I.len, I.inj, I.own, I.trk, I.obj, I.w0, I.wn, I.fr, I.k0, I.kn, fun i s e => I.slots i s (h i s e), hl.trans I.slen, I.wb, I.pw⟩
/-- other slots -/
theorem SI.other (I : SI K B W φ ρ M σ H) {ρ' : Rho} {σ' : Sg} (hl : ρ'.length = σ'.length) (h : ∀ (i : Nat) (s : S), ρ'[i]? = some (some s) → ∃ x, σ'[i]? = some (some x) ∧ RS K W φ H s x) : SI K B W φ ρ' M σ' H :=
  ⟨I.len, I.inj, I.own, I.trk, I.obj, I.w0, I.wn, I.fr, I.k0, I.kn, h, hl, I.wb, I.pw⟩
end
end Md
end
section
namespace Md
open PySem PySem.Spec PyProof.Rows L2

/-! ## mirrors of expressions -/
inductive REx (α : Type) where
  | ok (a : α) (M : Mh) | exn (x : Xc) (M : Mh) | bad
abbrev Em (α : Type) := Rho → Mh → REx α
def eb {α β : Type} (e : Em α) (k : α → Em β) : Em β := fun ρ M => match e ρ M with
  | .ok a M1 => k a ρ M1
  | .exn x M1 => .exn x M1
  | .bad => .bad
def er {α : Type} (a : α) : Em α := fun _ M => .ok a M
def eX {α : Type} : Em α := fun _ _ => .bad
/-- what is wanted behind a mirror's end -/
def Ct {α β : Type} (K : PySem.W.Frag) (B : Bs) (Wx : WX) (σ : Sg) (ρ : Rho) (R : (Addr → Prop) → List (Option Addr) → Hp → α → β → Prop) (W : Addr → Prop) (φ : List (Option Addr)) (H : Hp) (res : REx α) (Q : β → Hp → Prop) : Prop :=
  match res with
  | .ok a M' => ∀ W' φ' H' b, SI K B W' φ' ρ M' σ H' → Stb W φ H W' φ' H' → R W' φ' H' a b → Q b H'
  | .exn x M' => ∀ cls d W' φ' H', SI K B W' φ' ρ M' σ H' → XR K x cls d H' → Wx cls d σ H'
  | .bad => False
def tl {α β : Type} (K : PySem.W.Frag) (B : Bs) (Wx : WX) (R : (Addr → Prop) → List (Option Addr) → Hp → α → β → Prop) (em : Em α) : Sg → Hp → (β → Hp → Prop) → Prop := fun σ H Q =>
  ∃ W φ ρ M, SI K B W φ ρ M σ H ∧ Ct K B Wx σ ρ R W φ H (em ρ M) Q
abbrev RB : (Addr → Prop) → List (Option Addr) → Hp → Bool → Bool → Prop := fun _ _ _ a b => b = a
/-- a relation that goes on -/
def Goes {α β : Type} (R : (Addr → Prop) → List (Option Addr) → Hp → α → β → Prop) : Prop := ∀ W φ H W' φ' H' a b, Stb W φ H W' φ' H' → R W φ H a b → R W' φ' H' a b
theorem goS {K : PySem.W.Frag} : Goes (RS K) := fun _ _ _ _ _ _ _ _ st h => h.stb st
theorem goSs {K : PySem.W.Frag} : Goes (RSs K) := fun _ _ _ _ _ _ _ _ st h => RSs.stb st h
section
variable {K : PySem.W.Frag} {B : Bs} {Wx : WX} {σ : Sg} {ρ : Rho} {W W1 : Addr → Prop} {φ φ1 : List (Option Addr)} {H H1 : Hp} {M : Mh}
theorem Ct.base {α β : Type} {R : (Addr → Prop) → List (Option Addr) → Hp → α → β → Prop} {res : REx α} {Q : β → Hp → Prop} (h : Ct K B Wx σ ρ R W φ H res Q) (st : Stb W φ H W1 φ1 H1) : Ct K B Wx σ ρ R W1 φ1 H1 res Q := by
  cases res with
  | ok a M' => exact fun W' φ' H' b I s r => h W' φ' H' b I (st.trans s) r
  | exn x M' => exact h
  | bad => exact h
/-- the first part's wish -/
theorem ct_bindC {α α' β β' : Type} {R : (Addr → Prop) → List (Option Addr) → Hp → α → β → Prop} {R' : (Addr → Prop) → List (Option Addr) → Hp → α' → β' → Prop} {ea : Em α} {k : α → Em α'} {Q : β' → Hp → Prop}
    (h : Ct K B Wx σ ρ R' W φ H (eb ea k ρ M) Q) :
    Ct K B Wx σ ρ R W φ H (ea ρ M) fun x H1 => ∃ W1 φ1 M1 a, SI K B W1 φ1 ρ M1 σ H1 ∧ Stb W φ H W1 φ1 H1 ∧ R W1 φ1 H1 a x ∧ Ct K B Wx σ ρ R' W1 φ1 H1 (k a ρ M1) Q := by
  unfold eb at h
  cases e : ea ρ M with
  | ok a M1 =>
    rw [e] at h
    exact fun W' φ' H' b I' st r => ⟨W', φ', M1, a, I', st, r, h.base st⟩
  | exn x M1 =>
    rw [e] at h
    exact h
  | bad =>
    rw [e] at h
    exact h
theorem ct_bind {α α' β β' : Type} {R : (Addr → Prop) → List (Option Addr) → Hp → α → β → Prop} {R' : (Addr → Prop) → List (Option Addr) → Hp → α' → β' → Prop} {ea : Em α} {k : α → Em α'} {Q : β' → Hp → Prop}
    (I : SI K B W φ ρ M σ H) (h : Ct K B Wx σ ρ R' W φ H (eb ea k ρ M) Q) :
    tl K B Wx R ea σ H fun x H1 => ∃ W1 φ1 M1 a, SI K B W1 φ1 ρ M1 σ H1 ∧ Stb W φ H W1 φ1 H1 ∧ R W1 φ1 H1 a x ∧ Ct K B Wx σ ρ R' W1 φ1 H1 (k a ρ M1) Q := ⟨W, φ, ρ, M, I, ct_bindC h⟩
theorem ct_ok {α β : Type} {R : (Addr → Prop) → List (Option Addr) → Hp → α → β → Prop} {a : α} {b : β} {Q : β → Hp → Prop} (I : SI K B W φ ρ M σ H) (h : Ct K B Wx σ ρ R W φ H (.ok a M) Q) (r : R W φ H a b) : Q b H := h W φ H b I Stb.refl r
end

theorem tl_mono {α β : Type} {K : PySem.W.Frag} {B : Bs} {Wx : WX} {R : (Addr → Prop) → List (Option Addr) → Hp → α → β → Prop} {em : Em α} {σ : Sg} {H : Hp} {Q Q' : β → Hp → Prop} (h : tl K B Wx R em σ H Q) (i : ∀ b H', Q b H' → Q' b H') : tl K B Wx R em σ H Q' := by
  obtain ⟨W, φ, ρ, M, I, h⟩ := h
  refine ⟨W, φ, ρ, M, I, ?_⟩
  generalize em ρ M = res at h ⊢
  cases res with
  | ok a M1 => exact fun W' φ' H' b I' st r => i _ _ (h W' φ' H' b I' st r)
  | exn x M1 => exact h
  | bad => exact h

/-! ## judgements -/
def ME (X : Cx) (Wx : WX) (e : Expr) (em : Em S) : Prop := ∀ B, PE X e (tl X.K B Wx (RS X.K) em)
def MT (X : Cx) (Wx : WX) (e : Expr) (em : Em Bool) : Prop := ∀ B, PT X e (tl X.K B Wx RB em)
def MA (X : Cx) (Wx : WX) (es : List Expr) (em : Em (List S)) : Prop := ∀ B, PA X es (tl X.K B Wx (RSs X.K) em)
/-- a chain of and, or -/
def MW (X : Cx) (Wx : WX) (e : Expr) (em : Em Bool) : Prop := ∀ B, PW X e (tl X.K B Wx RB em)
theorem pe_imp {X : Cx} {e : Expr} {t t' : TE} (h : PE X e t) (i : ∀ σ H Q, t' σ H Q → t σ H Q) : PE X e t' := ⟨fun pins s σ H Q I q => h.run pins s σ H Q I (i σ H Q q)⟩
theorem pt_imp {X : Cx} {e : Expr} {t t' : TT} (h : PT X e t) (i : ∀ σ H Q, t' σ H Q → t σ H Q) : PT X e t' := ⟨fun pins s σ H Q I q => h.run pins s σ H Q I (i σ H Q q)⟩
theorem pw_imp {X : Cx} {e : Expr} {t t' : TT} (h : PW X e t) (i : ∀ σ H Q, t' σ H Q → t σ H Q) : PW X e t' := ⟨fun wh pins s σ H Q I q => h.run wh pins s σ H Q I (i σ H Q q)⟩
theorem pa_imp {X : Cx} {e : List Expr} {t t' : TA} (h : PA X e t) (i : ∀ σ H Q, t' σ H Q → t σ H Q) : PA X e t' := ⟨fun pos pins s σ H Q I q => h.run pos pins s σ H Q I (i σ H Q q)⟩

/-! ## names, constants -/
def eName (i : Nat) : Em S := fun ρ M => match ρ[i]? with
  | some (some s) => .ok s M
  | _ => .bad
section
variable {X : Cx} {Wx : WX}
theorem me_name (i : Nat) {x : Str} {pos : Pos} (hN : X.N[i]? = some x := by rfl) (hv : Vis X.env.scope x := by first | exact Or.inl rfl | exact Or.inr (Or.inl rfl) | exact Or.inr (Or.inr rfl)) (hd : (x == ("__debug__" : Str)) = false := by decide)
    (hcd : (x == ("__classdict__" : Str)) = false := by decide) : ME X Wx (.Name x pos) (eName i) := fun B => by
  refine pe_imp (pe_var hN hv hd hcd) fun σ H Q ⟨W, φ, ρ, M, I, h⟩ => ?_
  unfold eName at h
  cases e : ρ[i]? with
  | none =>
    rw [e] at h
    exact h.elim
  | some o =>
    cases o with
    | none =>
      rw [e] at h
      exact h.elim
    | some s =>
      rw [e] at h
      obtain ⟨x, e1, r⟩ := I.slots i s e
      exact ⟨x, e1, ct_ok I h r⟩
theorem me_const {e : Expr} {x : V} {d : D} (h : PE X e (tC x)) (r : ∀ W H, RV X.K W H d x) : ME X Wx e (er (.v d)) := fun B =>
  pe_imp h fun σ H Q ⟨W, φ, ρ, M, I, h⟩ => ct_ok (M := M) I h (r W H)
theorem me_int {i : Int} {j : Nat} {pos : Pos} : ME X Wx (.Constant (.int i) j pos) (er (.v (.int i))) := me_const pe_int fun _ _ => .int i
theorem me_bl {b : Bool} {j : Nat} {pos : Pos} : ME X Wx (.Constant (.bool b) j pos) (er (.v (.bl b))) := me_const pe_bl fun _ _ => .bl b
theorem me_non {j : Nat} {pos : Pos} : ME X Wx (.Constant .none j pos) (er (.v .non)) := me_const pe_non fun _ _ => .non
theorem me_str {x : Str} {j : Nat} {pos : Pos} : ME X Wx (.Constant (.str x) j pos) (er (.v (.str x))) := me_const pe_str fun _ _ => .str x
/-- a module's constant -/
theorem me_gint {x : Str} {i : Int} {pos : Pos} (hg : Gl X x) (hm : ∃ t, X.mg x = some (.int i t)) (hd : (x == ("__debug__" : Str)) = false := by decide) : ME X Wx (.Name x pos) (er (.v (.int i))) := by
  obtain ⟨t, hm⟩ := hm
  exact me_const (pe_glob (v := .int i) hg hm ⟨t, rfl⟩ hd) fun _ _ => .int i
theorem me_gstr {x z : Str} {pos : Pos} (hg : Gl X x) (hm : ∃ t, X.mg x = some (.str z t)) (hd : (x == ("__debug__" : Str)) = false := by decide) : ME X Wx (.Name x pos) (er (.v (.str z))) := by
  obtain ⟨t, hm⟩ := hm
  exact me_const (pe_glob (v := .str z) hg hm ⟨t, rfl⟩ hd) fun _ _ => .str z
theorem me_gtup {x : Str} {a : Addr} {ds : List D} {vs : List V} {pos : Pos} (hg : Gl X x) (hm : X.mg x = some (.ref a)) (ht : KT X.K a vs) (r : ∀ W H, RVs X.K W H ds vs) (hd : (x == ("__debug__" : Str)) = false := by decide) : ME X Wx (.Name x pos) (er (.v (.tup ds))) :=
  me_const (pe_glob (v := .ref a) hg hm rfl hd) fun W H => .tup (.inr ht) (r W H)
theorem me_gadr {x : Str} {a : Addr} {pos : Pos} (hg : Gl X x) (hm : X.mg x = some (.ref a)) (hd : (x == ("__debug__" : Str)) = false := by decide) : ME X Wx (.Name x pos) (er (.v (.adr a))) :=
  me_const (pe_glob (v := .ref a) hg hm rfl hd) fun W H => .adr a
end

/-! ## operators -/
/-- a two-place operation by its mirror -/
def OpM (X : Cx) (f : Value → Value → Sem Value) (g : S → S → Mh → REx S) : Prop := ∀ B Wx, OpR X f fun x y H Q => ∃ σ W φ ρ M s t, SI X.K B W φ ρ M σ H ∧ RS X.K W φ H s x ∧ RS X.K W φ H t y ∧ Ct X.K B Wx σ ρ (RS X.K) W φ H (g s t M) Q
def UnM (X : Cx) (f : Value → Sem Value) (g : S → Mh → REx S) : Prop := ∀ B Wx, UnR X f fun x H Q => ∃ σ W φ ρ M s, SI X.K B W φ ρ M σ H ∧ RS X.K W φ H s x ∧ Ct X.K B Wx σ ρ (RS X.K) W φ H (g s M) Q
def CallM (X : Cx) (f : Value) (g : List S → Mh → REx S) : Prop := ∀ B Wx, CallR X f fun xs H Q => ∃ σ W φ ρ M ss, SI X.K B W φ ρ M σ H ∧ RSs X.K W φ H ss xs ∧ Ct X.K B Wx σ ρ (RS X.K) W φ H (g ss M) Q
/-- no new object, no exception: by values -/
def oneV {α : Type} (o : Option D) (M : Mh) : REx S := match o with
  | some d => .ok (.v d) M
  | none => .bad
def eOp2 (g : S → S → Mh → REx S) (a b : Em S) : Em S := eb a fun s => eb b fun t => fun _ M => g s t M
def eOp1 (g : S → Mh → REx S) (a : Em S) : Em S := eb a fun s => fun _ M => g s M
def eCall (g : List S → Mh → REx S) (a : Em (List S)) : Em S := eb a fun ss => fun _ M => g ss M
def eNil : Em (List S) := er []
def eCons (a : Em S) (r : Em (List S)) : Em (List S) := eb a fun s => eb r fun ss => er (s :: ss)
section
variable {X : Cx} {Wx : WX} {a b : Expr} {ea ec : Em S} {pos : Pos}
theorem two_of {r : R2} {g : S → S → Mh → REx S} {B : Bs} (hr : ∀ x y H Q, (∃ σ W φ ρ M s t, SI X.K B W φ ρ M σ H ∧ RS X.K W φ H s x ∧ RS X.K W φ H t y ∧ Ct X.K B Wx σ ρ (RS X.K) W φ H (g s t M) Q) → r x y H Q)
    (σ : Sg) (H : Hp) (Q : VK) (h : tl X.K B Wx (RS X.K) (eOp2 g ea ec) σ H Q) : tOp r (tl X.K B Wx (RS X.K) ea) (tl X.K B Wx (RS X.K) ec) σ H Q := by
  obtain ⟨W, φ, ρ, M, I, h⟩ := h
  refine tl_mono (ct_bind (R := RS X.K) I h) fun x H1 ⟨W1, φ1, M1, s, I1, st1, r1, h1⟩ => ?_
  refine tl_mono (ct_bind (R := RS X.K) I1 h1) fun y H2 ⟨W2, φ2, M2, t, I2, st2, r2, h2⟩ => ?_
  exact hr x y H2 Q ⟨σ, W2, φ2, _, M2, s, t, I2, r1.stb st2, r2, h2⟩
theorem me_bin {op : Operator} {g : S → S → Mh → REx S} (ho : OpM X (binaryOp op) g) (ha : ME X Wx a ea) (hb : ME X Wx b ec) : ME X Wx (.BinOp a op b pos) (eOp2 g ea ec) := fun B =>
  pe_imp (pe_op (ho B Wx) (ha B) (hb B)) (two_of fun _ _ _ _ h => h)
theorem me_cmp {op : CmpOp} {g : S → S → Mh → REx S} (ho : OpM X (compareOp op) g) (ha : ME X Wx a ea) (hb : ME X Wx b ec) (hm : behindInMarks op b = false) : ME X Wx (.Compare a [op] [b] pos) (eOp2 g ea ec) := fun B =>
  pe_imp (pe_cmpR (ho B Wx) (ha B) (hb B) hm) (two_of fun _ _ _ _ h => h)
theorem me_un {op : UnaryOp} {g : S → Mh → REx S} (ho : UnM X (unaryOp op) g) (ha : ME X Wx a ea) : ME X Wx (.UnaryOp op a pos) (eOp1 g ea) := fun B =>
  pe_imp (pe_un (ho B Wx) (ha B)) fun σ H Q ⟨W, φ, ρ, M, I, h⟩ => tl_mono (ct_bind (R := RS X.K) I h) fun x H1 ⟨W1, φ1, M1, s, I1, st1, r1, h1⟩ => ⟨σ, W1, φ1, _, M1, s, I1, r1, h1⟩
/-- by a rule of the layer -/
theorem opM_of {f : Value → Value → Sem Value} {g : S → S → Mh → REx S} {r : R2} (h : OpR X f r)
    (hr : ∀ B Wx x y H Q, (∃ σ W φ ρ M s t, SI X.K B W φ ρ M σ H ∧ RS X.K W φ H s x ∧ RS X.K W φ H t y ∧ Ct X.K B Wx σ ρ (RS X.K) W φ H (g s t M) Q) → r x y H Q) : OpM X f g :=
  fun B Wx pins s σ H x y v u Q I rx ry q => h pins s σ H x y v u Q I rx ry (hr B Wx x y H Q q)
theorem unM_of {f : Value → Sem Value} {g : S → Mh → REx S} {r : V → Hp → VK → Prop} (h : UnR X f r)
    (hr : ∀ B Wx x H Q, (∃ σ W φ ρ M s, SI X.K B W φ ρ M σ H ∧ RS X.K W φ H s x ∧ Ct X.K B Wx σ ρ (RS X.K) W φ H (g s M) Q) → r x H Q) : UnM X f g :=
  fun B Wx pins s σ H x v Q I rx q => h pins s σ H x v Q I rx (hr B Wx x H Q q)
theorem callM_of {f : Value} {g : List S → Mh → REx S} {r : List V → Hp → VK → Prop} (h : CallR X f r)
    (hr : ∀ B Wx xs H Q, (∃ σ W φ ρ M ss, SI X.K B W φ ρ M σ H ∧ RSs X.K W φ H ss xs ∧ Ct X.K B Wx σ ρ (RS X.K) W φ H (g ss M) Q) → r xs H Q) : CallM X f g :=
  fun B Wx pins s σ H xs us Q I rx q => h pins s σ H xs us Q I rx (hr B Wx xs H Q q)

/-! ### argument lists -/
theorem ma_nil : MA X Wx [] eNil := fun B => pa_imp pa_nil fun σ H Q ⟨W, φ, ρ, M, I, h⟩ => ct_ok (M := M) I h .nil
theorem ma_cons {es : List Expr} {er' : Em (List S)} (ha : ME X Wx a ea) (hr : MA X Wx es er') (hs : starEach (a :: es) X.env = (false, eval a X.env) :: starEach es X.env := by rfl) : MA X Wx (a :: es) (eCons ea er') := fun B =>
  pa_imp (pa_cons (ha B) (hr B) hs) fun σ H Q ⟨W, φ, ρ, M, I, h⟩ => by
    refine tl_mono (ct_bind (R := RS X.K) I h) fun x H1 ⟨W1, φ1, M1, s, I1, st1, r1, h1⟩ => ?_
    refine tl_mono (ct_bind (R := RSs X.K) I1 h1) fun xs H2 ⟨W2, φ2, M2, t, I2, st2, r2, h2⟩ => ?_
    exact ct_ok (M := M2) I2 h2 (.cons (r1.stb st2) r2)

/-! ### tests -/
theorem mt_of {t : TT} {em : Em Bool} (h : PT X a t) (i : ∀ B σ H Q, tl X.K B Wx RB em σ H Q → t σ H Q) : MT X Wx a em := fun B => pt_imp h (i B)
/-- a value that is a bool -/
def eTest (e : Em S) : Em Bool := eb e fun s => fun _ M => match s with
  | .v (.bl b) => .ok b M
  | _ => .bad
theorem tB_of {B : Bs} (σ : Sg) (H : Hp) (Q : Bool → Hp → Prop) (h : tl X.K B Wx RB (eTest ea) σ H Q) : tB (tl X.K B Wx (RS X.K) ea) σ H Q := by
  obtain ⟨W, φ, ρ, M, I, h⟩ := h
  refine tl_mono (ct_bind (R := RS X.K) I h) fun x H1 ⟨W1, φ1, M1, s, I1, st1, r1, h1⟩ => ?_
  cases s with
  | r n => exact h1.elim
  | v d =>
    cases d <;> first
      | exact h1.elim
      | (cases r1; exact ⟨_, rfl, ct_ok (M := M1) I1 h1 rfl⟩)
/-- an expression whose value is a bool, as a test (no comparison, and, or, not) -/
theorem mt_val (ha : ME X Wx a ea) (he : ∀ whole, isTrue a X.env whole = (do let v ← whole; standAt a.pos; holding [v] (truthy v)) := by intro _; rfl) : MT X Wx a (eTest ea) := fun B => pt_imp (pt_val (ha B) he) tB_of
theorem mt_cmp {op : CmpOp} {g : S → S → Mh → REx S} (ho : OpM X (compareOp op) g) (ha : ME X Wx a ea) (hb : ME X Wx b ec) (hm : behindInMarks op b = false) : MT X Wx (.Compare a [op] [b] pos) (eTest (eOp2 g ea ec)) := fun B => by
  refine pt_imp (pt_cmpR (ho B Wx) (ha B) (hb B) hm) fun σ H Q h => ?_
  obtain ⟨W, φ, ρ, M, I, h⟩ := tB_of σ H Q h
  exact two_of (ea := ea) (ec := ec) (fun _ _ _ _ h => h) σ H _ ⟨W, φ, ρ, M, I, h⟩
/-- by truth -/
def truD : D → Option Bool
  | .non => some false
  | .bl b => some b
  | .int i => some (i != 0)
  | .str x => if x.length ≤ 16777216 then some ((x.length : Int) != 0) else none
  | .tup ds => some (!ds.isEmpty)
  | .lst ds => some (!ds.isEmpty)
  | _ => none
def eTruth (e : Em S) : Em Bool := eb e fun s => fun _ M => match s with
  | .v d => (match truD d with
    | some b => .ok b M
    | none => .bad)
  | .r n => (match M[n]? with
    | some (some (.lst xs)) => .ok (!xs.isEmpty) M
    | _ => .bad)
theorem isE_pair {α β : Type} {F : α → β → Prop} {xs : List α} {ys : List β} (h : Paired F xs ys) : xs.isEmpty = ys.isEmpty := by cases h <;> rfl
theorem isE_rvs {K : PySem.W.Frag} {W : Addr → Prop} {H : Hp} {ds : List D} {vs : List V} (h : RVs K W H ds vs) : ds.isEmpty = vs.isEmpty := isE_pair h.pair
theorem mt_truth (ha : ME X Wx a ea) (he : ∀ whole, isTrue a X.env whole = (do let v ← whole; standAt a.pos; holding [v] (truthy v)) := by intro _; rfl) : MT X Wx a (eTruth ea) := fun B => by
  refine pt_imp (pt_truth (ha B) he) fun σ H Q ⟨W, φ, ρ, M, I, h⟩ => ?_
  refine tl_mono (ct_bind (R := RS X.K) I h) fun x H1 ⟨W1, φ1, M1, s, I1, st1, r1, h1⟩ => ?_
  have fin : ∀ b, Ct X.K B Wx σ ρ RB W1 φ1 H1 (.ok b M1) Q → TruV X.K x H1 b → ∃ k, TruV X.K x H1 k ∧ Q k H1 := fun b hb t => ⟨b, t, ct_ok (M := M1) I1 hb rfl⟩
  cases s with
  | r n =>
    change Ct X.K B Wx σ ρ RB W1 φ1 H1 (match M1[n]? with
      | some (some (.lst xs)) => .ok (!xs.isEmpty) M1
      | _ => .bad) Q at h1
    split at h1
    · rename_i xs hM
      obtain ⟨c, ho, e1, e2, e3⟩ := I1.obj n _ hM
      obtain ⟨y, e4, e5⟩ := r1
      rw [e1] at e4
      have e6 := e5 c (Option.some.inj e4).symm
      subst e6
      cases ho <;> first
        | exact e3.elim
        | (refine fin _ h1 (.inl ⟨_, .inl (.inl e2), ?_⟩); rw [isE_pair e3])
    · exact h1.elim
  | v d =>
    change Ct X.K B Wx σ ρ RB W1 φ1 H1 (match truD d with
      | some b => .ok b M1
      | none => .bad) Q at h1
    cases r1 with
    | non => exact fin _ h1 rfl
    | bl b => exact fin _ h1 rfl
    | int i => exact fin _ h1 rfl
    | str y =>
      by_cases hy : y.length ≤ 16777216
      · have e : truD (.str y) = some ((y.length : Int) != 0) := if_pos hy
        rw [e] at h1
        exact fin _ h1 ⟨by rw [sizeLine_eq]; exact hy, rfl⟩
      · have e : truD (.str y) = none := if_neg hy
        rw [e] at h1
        exact h1.elim
    | adr c => exact h1.elim
    | tup q r => exact fin _ h1 (.inr (.inl ⟨_, q.sq, by rw [isE_rvs r]⟩))
    | lst q r => exact fin _ h1 (.inl ⟨_, q.sq, by rw [isE_rvs r]⟩)
    | dK => exact h1.elim
    | dT => exact h1.elim
def eAndT (a b : Em Bool) : Em Bool := eb a fun c => if c = true then b else er false
def eOrT (a b : Em Bool) : Em Bool := eb a fun c => if c = true then er true else b
def eNotT (a : Em Bool) : Em Bool := eb a fun c => er (!c)
section
variable {ta tb : Em Bool} {rest : List Expr}
theorem mt_not (ha : MT X Wx a ta) : MT X Wx (.UnaryOp .Not a pos) (eNotT ta) := fun B => pt_imp (pt_not (ha B)) fun σ H Q ⟨W, φ, ρ, M, I, h⟩ =>
  tl_mono (ct_bind (R := RB) I h) fun x H1 ⟨W1, φ1, M1, c, I1, st1, r1, h1⟩ => by
    cases r1
    exact ct_ok (M := M1) I1 h1 rfl
theorem mw_pt (h : MW X Wx a ta) : MT X Wx a ta := fun B => PW.pt (h B)
theorem mw_and1 (ha : MT X Wx a ta) : MW X Wx (.BoolOp .And [a] pos) ta := fun B => pw_and1 (ha B)
theorem mw_or1 (ha : MT X Wx a ta) : MW X Wx (.BoolOp .Or [a] pos) ta := fun B => pw_or1 (ha B)
theorem mw_and (ha : MT X Wx a ta) (hb : MW X Wx (.BoolOp .And (b :: rest) pos) tb) : MW X Wx (.BoolOp .And (a :: b :: rest) pos) (eAndT ta tb) := fun B => pw_imp (pw_and (ha B) (hb B)) fun σ H Q ⟨W, φ, ρ, M, I, h⟩ => by
  refine tl_mono (ct_bind (R := RB) I h) fun x H1 ⟨W1, φ1, M1, c, I1, st1, r1, h1⟩ => ?_
  cases r1
  cases x with
  | true => exact ⟨W1, φ1, _, M1, I1, h1⟩
  | false => exact ct_ok (M := M1) I1 h1 rfl
theorem mw_or (ha : MT X Wx a ta) (hb : MW X Wx (.BoolOp .Or (b :: rest) pos) tb) : MW X Wx (.BoolOp .Or (a :: b :: rest) pos) (eOrT ta tb) := fun B => pw_imp (pw_or (ha B) (hb B)) fun σ H Q ⟨W, φ, ρ, M, I, h⟩ => by
  refine tl_mono (ct_bind (R := RB) I h) fun x H1 ⟨W1, φ1, M1, c, I1, st1, r1, h1⟩ => ?_
  cases r1
  cases x with
  | false => exact ⟨W1, φ1, _, M1, I1, h1⟩
  | true => exact ct_ok (M := M1) I1 h1 rfl
/-- as values: all but the last are bools -/
def eAnd (a b : Em S) : Em S := eb a fun s => match s with
  | .v (.bl true) => b
  | .v (.bl false) => er (.v (.bl false))
  | _ => eX
def eOr (a b : Em S) : Em S := eb a fun s => match s with
  | .v (.bl false) => b
  | .v (.bl true) => er (.v (.bl true))
  | _ => eX
def eNot (a : Em S) : Em S := eb a fun s => match s with
  | .v (.bl c) => er (.v (.bl (!c)))
  | _ => eX
theorem me_one {op : PySem.BoolOp} (h : ME X Wx a ea) : ME X Wx (.BoolOp op [a] pos) ea := fun B => pe_one (h B)
theorem me_and (ha : ME X Wx a ea) (hb : ME X Wx (.BoolOp .And (b :: rest) pos) ec) : ME X Wx (.BoolOp .And (a :: b :: rest) pos) (eAnd ea ec) := fun B => pe_imp (pe_and (ha B) (hb B)) fun σ H Q ⟨W, φ, ρ, M, I, h⟩ => by
  refine tl_mono (ct_bind (R := RS X.K) I h) fun x H1 ⟨W1, φ1, M1, s, I1, st1, r1, h1⟩ => ?_
  cases s with
  | r n => exact h1.elim
  | v d =>
    cases d with
    | bl c =>
      cases r1
      refine ⟨c, rfl, ?_⟩
      cases c with
      | true => exact ⟨W1, φ1, _, M1, I1, h1⟩
      | false => exact ct_ok (M := M1) I1 h1 (.bl false)
    | _ => exact h1.elim
theorem me_or (ha : ME X Wx a ea) (hb : ME X Wx (.BoolOp .Or (b :: rest) pos) ec) : ME X Wx (.BoolOp .Or (a :: b :: rest) pos) (eOr ea ec) := fun B => pe_imp (pe_or (ha B) (hb B)) fun σ H Q ⟨W, φ, ρ, M, I, h⟩ => by
  refine tl_mono (ct_bind (R := RS X.K) I h) fun x H1 ⟨W1, φ1, M1, s, I1, st1, r1, h1⟩ => ?_
  cases s with
  | r n => exact h1.elim
  | v d =>
    cases d with
    | bl c =>
      cases r1
      refine ⟨c, rfl, ?_⟩
      cases c with
      | false => exact ⟨W1, φ1, _, M1, I1, h1⟩
      | true => exact ct_ok (M := M1) I1 h1 (.bl true)
    | _ => exact h1.elim
theorem me_not (ha : ME X Wx a ea) : ME X Wx (.UnaryOp .Not a pos) (eNot ea) := fun B => pe_imp (pe_not (ha B)) fun σ H Q ⟨W, φ, ρ, M, I, h⟩ => by
  refine tl_mono (ct_bind (R := RS X.K) I h) fun x H1 ⟨W1, φ1, M1, s, I1, st1, r1, h1⟩ => ?_
  cases s with
  | r n => exact h1.elim
  | v d =>
    cases d with
    | bl c =>
      cases r1
      exact ⟨c, rfl, ct_ok (M := M1) I1 h1 (.bl _)⟩
    | _ => exact h1.elim
def eIf (t : Em Bool) (a b : Em S) : Em S := eb t fun c => if c = true then a else b
theorem me_if {c : Expr} (hc : MT X Wx c ta) (ha : ME X Wx a ea) (hb : ME X Wx b ec) : ME X Wx (.IfExp c a b pos) (eIf ta ea ec) := fun B => pe_imp (pe_ifExp (hc B) (ha B) (hb B)) fun σ H Q ⟨W, φ, ρ, M, I, h⟩ => by
  refine tl_mono (ct_bind (R := RB) I h) fun x H1 ⟨W1, φ1, M1, s, I1, st1, r1, h1⟩ => ?_
  cases r1
  cases x with
  | true => exact ⟨W1, φ1, _, M1, I1, h1⟩
  | false => exact ⟨W1, φ1, _, M1, I1, h1⟩
end
/-! ### a chain of two comparisons -/
def eChain (g g' : S → S → Mh → REx S) (a b c : Em S) : Em S := eb a fun s => eb b fun t => eb (fun _ M => g s t M) fun k => match k with
  | .v (.bl true) => eb c fun u => fun _ M => g' t u M
  | .v (.bl false) => er (.v (.bl false))
  | _ => eX
theorem chain_of {r r' : R2} {g g' : S → S → Mh → REx S} {c : Expr} {ed : Em S} {B : Bs}
    (hr : ∀ x y H Q, (∃ σ W φ ρ M s t, SI X.K B W φ ρ M σ H ∧ RS X.K W φ H s x ∧ RS X.K W φ H t y ∧ Ct X.K B Wx σ ρ (RS X.K) W φ H (g s t M) Q) → r x y H Q)
    (hr' : ∀ x y H Q, (∃ σ W φ ρ M s t, SI X.K B W φ ρ M σ H ∧ RS X.K W φ H s x ∧ RS X.K W φ H t y ∧ Ct X.K B Wx σ ρ (RS X.K) W φ H (g' s t M) Q) → r' x y H Q)
    (σ : Sg) (H : Hp) (Q : VK) (h : tl X.K B Wx (RS X.K) (eChain g g' ea ec ed) σ H Q) : tChain r r' (tl X.K B Wx (RS X.K) ea) (tl X.K B Wx (RS X.K) ec) (tl X.K B Wx (RS X.K) ed) σ H Q := by
  obtain ⟨W, φ, ρ, M, I, h⟩ := h
  refine tl_mono (ct_bind (R := RS X.K) I h) fun x H1 ⟨W1, φ1, M1, s, I1, st1, r1, h1⟩ => ?_
  refine tl_mono (ct_bind (R := RS X.K) I1 h1) fun y H2 ⟨W2, φ2, M2, t, I2, st2, r2, h2⟩ => ?_
  refine hr x y H2 _ ⟨σ, W2, φ2, ρ, M2, s, t, I2, r1.stb st2, r2, ?_⟩
  have h4 := ct_bindC (R := RS X.K) h2
  change Ct X.K B Wx σ ρ (RS X.K) W2 φ2 H2 (g s t M2) _ at h4
  generalize g s t M2 = res at h4 ⊢
  cases res with
  | bad => exact h4
  | exn e M => exact h4
  | ok k M =>
    intro W' φ' H' z I' st r'
    obtain ⟨W5, φ5, M5, k5, I5, st5, r5, h5⟩ := h4 W' φ' H' z I' st r'
    cases k5 with
    | r n => exact h5.elim
    | v d =>
      cases d with
      | bl c =>
        cases r5
        refine ⟨c, rfl, ?_⟩
        cases c with
        | false => exact ct_ok (M := M5) I5 h5 (.bl false)
        | true =>
          refine tl_mono (ct_bind (R := RS X.K) I5 h5) fun w H6 ⟨W6, φ6, M6, u, I6, st6, r6, h6⟩ => ?_
          exact hr' y w H6 Q ⟨σ, W6, φ6, ρ, M6, t, u, I6, (r2.stb st5).stb st6, r6, h6⟩
      | _ => exact h5.elim
theorem me_chain {op op' : CmpOp} {g g' : S → S → Mh → REx S} {c : Expr} {ed : Em S} (ho : OpM X (compareOp op) g) (ho' : OpM X (compareOp op') g') (ha : ME X Wx a ea) (hb : ME X Wx b ec) (hc : ME X Wx c ed)
    (hm : lastMarks [op, op'] [b, c] = false := by with_unfolding_all rfl) :
    ME X Wx (.Compare a [op, op'] [b, c] pos) (eChain g g' ea ec ed) := fun B =>
  pe_imp (pe_chain (ho B Wx) (ho' B Wx) (ha B) (hb B) (hc B) hm) (chain_of (c := c) (fun _ _ _ _ h => h) fun _ _ _ _ h => h)
theorem mt_chain {op op' : CmpOp} {g g' : S → S → Mh → REx S} {c : Expr} {ed : Em S} (ho : OpM X (compareOp op) g) (ho' : OpM X (compareOp op') g') (ha : ME X Wx a ea) (hb : ME X Wx b ec) (hc : ME X Wx c ed)
    (hm : lastMarks [op, op'] [b, c] = false := by with_unfolding_all rfl) :
    MT X Wx (.Compare a [op, op'] [b, c] pos) (eTest (eChain g g' ea ec ed)) := fun B =>
  pt_imp (pt_chain (ho B Wx) (ho' B Wx) (ha B) (hb B) (hc B) hm) fun σ H Q h => by
    obtain ⟨W, φ, ρ, M, I, h⟩ := tB_of σ H Q h
    exact chain_of (c := c) (fun _ _ _ _ h => h) (fun _ _ _ _ h => h) σ H _ ⟨W, φ, ρ, M, I, h⟩
end
end Md
end
section
namespace Md
open PySem PySem.Spec PyProof.Rows L2

/-! ## operators on data -/
theorem RVs.append {K : PySem.W.Frag} {W : Addr → Prop} {H : Hp} : ∀ {ds es : List D} {xs ys : List V}, RVs K W H ds xs → RVs K W H es ys → RVs K W H (ds ++ es) (xs ++ ys)
  | _, _, _, _, .nil, h => h
  | _, _, _, _, .cons a r, h => .cons a (RVs.append r h)
theorem RVs.take {K : PySem.W.Frag} {W : Addr → Prop} {H : Hp} : ∀ (n : Nat) {ds : List D} {xs : List V}, RVs K W H ds xs → RVs K W H (ds.take n) (xs.take n)
  | 0, _, _, _ => .nil
  | _ + 1, _, _, .nil => .nil
  | n + 1, _, _, .cons a r => .cons a (RVs.take n r)
theorem RVs.drop {K : PySem.W.Frag} {W : Addr → Prop} {H : Hp} : ∀ (n : Nat) {ds : List D} {xs : List V}, RVs K W H ds xs → RVs K W H (ds.drop n) (xs.drop n)
  | 0, _, _, h => h
  | _ + 1, _, _, .nil => .nil
  | n + 1, _, _, .cons a r => RVs.drop n r
theorem RVs.get {K : PySem.W.Frag} {W : Addr → Prop} {H : Hp} : ∀ {ds : List D} {xs : List V} {i : Nat} {d : D}, RVs K W H ds xs → ds[i]? = some d → ∃ x, xs[i]? = some x ∧ RV K W H d x
  | _, _, _, _, .nil, e => by simp at e
  | _, _, 0, _, .cons a r, e => by
    simp at e
    subst e
    exact ⟨_, rfl, a⟩
  | _, _, i + 1, _, .cons a r, e => by
    obtain ⟨x, h1, h2⟩ := RVs.get (i := i) r (by simpa using e)
    exact ⟨x, by simpa using h1, h2⟩
theorem RVs.get' {K : PySem.W.Frag} {W : Addr → Prop} {H : Hp} : ∀ {ds : List D} {xs : List V} {i : Nat} {x : V}, RVs K W H ds xs → xs[i]? = some x → ∃ d, ds[i]? = some d ∧ RV K W H d x
  | _, _, _, _, .nil, e => by simp at e
  | _, _, 0, _, .cons a r, e => by
    simp at e
    subst e
    exact ⟨_, rfl, a⟩
  | _, _, i + 1, _, .cons a r, e => by
    obtain ⟨x, h1, h2⟩ := RVs.get' (i := i) r (by simpa using e)
    exact ⟨x, by simpa using h1, h2⟩
def eD (M : Mh) : Option D → REx S
  | some d => .ok (.v d) M
  | none => .bad
/-- a two-place operation on frozen data -/
def onD (f : D → D → Option D) : S → S → Mh → REx S
  | .v a, .v b, M => eD M (f a b)
  | _, _, _ => .bad
def onD1 (f : D → Option D) : S → Mh → REx S
  | .v a, M => eD M (f a)
  | _, _ => .bad
def addD : D → D → Option D
  | .int i, .int j => some (.int (i + j))
  | .str x, .str y => if x.length + y.length ≤ 16777216 then some (.str (x ++ y)) else none
  | .tup xs, .tup ys => if xs.length + ys.length ≤ 16777216 then some (.tup (xs ++ ys)) else none
  | _, _ => none
def subD : D → D → Option D
  | .int i, .int j => some (.int (i - j))
  | _, _ => none
def mulOk (i j : Int) : Bool := decide (i.natAbs.log2 + j.natAbs.log2 < 1000000)
theorem mulOk_of {i j : Int} (h : mulOk i j = true) : CMulW i j := by
  unfold mulOk at h
  have h2 := of_decide_eq_true h
  exact h2
def mulD : D → D → Option D
  | .int i, .int j => if mulOk i j = true then some (.int (i * j)) else none
  | _, _ => none
def divD : D → D → Option D
  | .int i, .int j => if 0 < j ∧ j.natAbs.log2 < 9000 then some (.int (i / j)) else none
  | _, _ => none
def modD : D → D → Option D
  | .int i, .int j => if 0 < j then some (.int (i % j)) else none
  | _, _ => none
def powD : D → D → Option D
  | .int i, .int j => if 0 ≤ j ∧ ((i.natAbs.log2 : Int) + 1) * j ≤ 134217728 then some (.int (i ^ j.toNat)) else none
  | _, _ => none
def cmpD (p : Int → Int → Bool) : D → D → Option D
  | .int i, .int j => some (.bl (p i j))
  | _, _ => none
def ltD := cmpD fun i j => decide (i < j)
def leD := cmpD fun i j => decide (i ≤ j)
def gtD := cmpD fun i j => decide (j < i)
def geD := cmpD fun i j => decide (j ≤ i)
/-! ### data as the library has it -/
/-- plain data: no dicts, no addresses, texts of code points; so deep at most -/
def gd : Nat → D → Bool
  | _, .non => true
  | _, .bl _ => true
  | _, .int _ => true
  | _, .str s => PyData.strOk s
  | n + 1, .tup ds => ds.all (gd n)
  | n + 1, .lst ds => ds.all (gd n)
  | _, _ => false
mutual
def toP : D → PyData
  | .bl b => .bool b
  | .int i => .int i
  | .str s => .str s
  | .tup ds => .tuple (toPs ds)
  | .lst ds => .list (toPs ds)
  | _ => .none
def toPs : List D → List PyData
  | [] => []
  | d :: ds => toP d :: toPs ds
end
theorem toPs_map : ∀ ds : List D, toPs ds = ds.map toP
  | [] => rfl
  | d :: ds => by rw [toPs, List.map_cons, toPs_map ds]
mutual
def eqvD : D → D → Bool
  | .non, .non => true
  | .bl a, .bl b => a == b
  | .bl a, .int j => (if a then 1 else 0) == j
  | .int i, .bl b => i == (if b then 1 else 0)
  | .int i, .int j => i == j
  | .str x, .str y => x == y
  | .lst xs, .lst ys => eqvDs xs ys
  | .tup xs, .tup ys => eqvDs xs ys
  | _, _ => false
def eqvDs : List D → List D → Bool
  | [], [] => true
  | x :: xs, y :: ys => eqvD x y && eqvDs xs ys
  | _, _ => false
end
section
variable {K : PySem.W.Frag} {W : Addr → Prop} {H : Hp}
mutual
theorem RV.dp : ∀ (n : Nat) {d : D} {x : V}, gd n d = true → RV K W H d x → Dp K H x (toP d)
  | _, .non, _, _, .non => .non
  | _, .bl b, _, _, .bl _ => .bl b
  | _, .int i, _, _, .int _ => .int i
  | _, .str s, _, _, .str _ => .str s
  | _ + 1, .tup ds, _, g, .tup h r => .tup h.sq (RVs.dp _ (List.all_eq_true.mp g) r)
  | _ + 1, .lst ds, _, g, .lst h r => .lst h.sq (RVs.dp _ (List.all_eq_true.mp g) r)
  | n, .dct _, _, g, _ => by cases n <;> cases g
  | n, .adr _, _, g, _ => by cases n <;> cases g
theorem RVs.dp : ∀ (n : Nat) {ds : List D} {xs : List V}, (∀ d ∈ ds, gd n d = true) → RVs K W H ds xs → DpAll K H xs (toPs ds)
  | _, [], _, _, .nil => .nil
  | n, d :: ds, _, g, .cons h r => .cons (RV.dp n (g d List.mem_cons_self) h) (RVs.dp n (fun z hz => g z (List.mem_cons_of_mem _ hz)) r)
end
end
theorem lay_all : ∀ {n : Nat} {ds : List D}, (∀ d ∈ ds, (toP d).canLay0 = true ∧ (toP d).depth ≤ n) → PyData.canLayAll0 (toPs ds) = true ∧ PyData.depthAll (toPs ds) ≤ n
  | n, [], _ => ⟨rfl, Nat.zero_le _⟩
  | n, d :: ds, h => by
    obtain ⟨h1, h2⟩ := h d List.mem_cons_self
    obtain ⟨h3, h4⟩ := lay_all (n := n) (ds := ds) fun z hz => h z (List.mem_cons_of_mem _ hz)
    constructor
    · rw [toPs, PyData.canLayAll0, h1, h3]
      rfl
    · rw [toPs, PyData.depthAll]
      omega
theorem gd_lay : ∀ (n : Nat) (d : D), gd n d = true → (toP d).canLay0 = true ∧ (toP d).depth ≤ n
  | n, .non, _ => ⟨rfl, Nat.zero_le _⟩
  | n, .bl _, _ => ⟨rfl, Nat.zero_le _⟩
  | n, .int _, _ => ⟨rfl, Nat.zero_le _⟩
  | n, .str s, h => by
    cases n <;> exact ⟨h, Nat.zero_le _⟩
  | n + 1, .tup ds, h => by
    obtain ⟨h1, h2⟩ := lay_all (n := n) (ds := ds) fun d hd => gd_lay n d (List.all_eq_true.mp h d hd)
    exact ⟨h1, by rw [toP, PyData.depth]; omega⟩
  | n + 1, .lst ds, h => by
    obtain ⟨h1, h2⟩ := lay_all (n := n) (ds := ds) fun d hd => gd_lay n d (List.all_eq_true.mp h d hd)
    exact ⟨h1, by rw [toP, PyData.depth]; omega⟩
  | 0, .tup _, h => by cases h
  | 0, .lst _, h => by cases h
  | 0, .dct _, h => by cases h
  | _ + 1, .dct _, h => by cases h
  | 0, .adr _, h => by cases h
  | _ + 1, .adr _, h => by cases h
theorem gd_shaped {n : Nat} {d : D} (h : gd n d = true) (hn : n ≤ 64) : SeqAt.shaped (toP d) = true := by
  obtain ⟨h1, h2⟩ := gd_lay n d h
  unfold SeqAt.shaped
  rw [h1, decide_eq_true (Nat.le_trans h2 hn)]
  rfl
mutual
theorem eqv_toP : ∀ (n m : Nat) (a b : D), gd n a = true → gd m b = true → PyData.eqv (toP a) (toP b) = eqvD a b
  | n, m, .tup xs, .tup ys, h, g => by
    cases n with
    | zero => cases h
    | succ n =>
      cases m with
      | zero => cases g
      | succ m =>
        rw [toP, toP, PyData.eqv, eqvD]
        exact eqvs_toP n m xs ys (List.all_eq_true.mp h) (List.all_eq_true.mp g)
  | n, m, .lst xs, .lst ys, h, g => by
    cases n with
    | zero => cases h
    | succ n =>
      cases m with
      | zero => cases g
      | succ m =>
        rw [toP, toP, PyData.eqv, eqvD]
        exact eqvs_toP n m xs ys (List.all_eq_true.mp h) (List.all_eq_true.mp g)
  | n, m, .non, b, h, g => by cases b <;> first | rfl | (cases m <;> cases g)
  | n, m, .bl _, b, h, g => by cases b <;> first | rfl | (cases m <;> cases g)
  | n, m, .int _, b, h, g => by cases b <;> first | rfl | (cases m <;> cases g)
  | n, m, .str _, b, h, g => by cases b <;> first | rfl | (cases m <;> cases g)
  | n, m, .tup _, .non, h, g => rfl
  | n, m, .tup _, .bl _, h, g => rfl
  | n, m, .tup _, .int _, h, g => rfl
  | n, m, .tup _, .str _, h, g => rfl
  | n, m, .tup _, .lst _, h, g => rfl
  | n, m, .lst _, .non, h, g => rfl
  | n, m, .lst _, .bl _, h, g => rfl
  | n, m, .lst _, .int _, h, g => rfl
  | n, m, .lst _, .str _, h, g => rfl
  | n, m, .lst _, .tup _, h, g => rfl
  | n, m, .tup _, .dct _, h, g => by cases m <;> cases g
  | n, m, .tup _, .adr _, h, g => by cases m <;> cases g
  | n, m, .lst _, .dct _, h, g => by cases m <;> cases g
  | n, m, .lst _, .adr _, h, g => by cases m <;> cases g
  | n, m, .dct _, _, h, g => by cases n <;> cases h
  | n, m, .adr _, _, h, g => by cases n <;> cases h
theorem eqvs_toP : ∀ (n m : Nat) (xs ys : List D), (∀ d ∈ xs, gd n d = true) → (∀ d ∈ ys, gd m d = true) → PyData.eqvAll (toPs xs) (toPs ys) = eqvDs xs ys
  | n, m, [], [], h, g => rfl
  | n, m, [], _ :: _, h, g => rfl
  | n, m, _ :: _, [], h, g => rfl
  | n, m, x :: xs, y :: ys, h, g => by
    rw [toPs, toPs, PyData.eqvAll, eqvDs, eqv_toP n m x y (h x List.mem_cons_self) (g y List.mem_cons_self), eqvs_toP n m xs ys (fun z hz => h z (List.mem_cons_of_mem _ hz)) (fun z hz => g z (List.mem_cons_of_mem _ hz))]
end
def eqD (a b : D) : Option D := if gd 40 a = true ∧ gd 40 b = true then some (.bl (eqvD a b)) else none
def neD (a b : D) : Option D := if gd 40 a = true ∧ gd 40 b = true then some (.bl (!eqvD a b)) else none
def inD (a b : D) : Option D := match b with
  | .lst ds => if gd 40 a = true ∧ gd 40 b = true then some (.bl (ds.any fun z => eqvD z a)) else none
  | _ => none
def isNonD : D → Bool
  | .non => true
  | _ => false
section
variable {X : Cx} {Wx : WX}
/-! ### by the layer's rules -/
theorem eD_some {B : Bs} {σ : Sg} {ρ : Rho} {W : Addr → Prop} {φ : List (Option Addr)} {H : Hp} {M : Mh} {o : Option D} {Q : VK} (h : Ct X.K B Wx σ ρ (RS X.K) W φ H (eD M o) Q) : ∃ d, o = some d ∧ Ct X.K B Wx σ ρ (RS X.K) W φ H (.ok (.v d) M) Q := by
  cases o with
  | none => exact h.elim
  | some d => exact ⟨d, rfl, h⟩
/-- rules on data -/
theorem onD_of {f : Value → Value → Sem Value} {g : D → D → Option D} {r : R2} (h : OpR X f r)
    (hr : ∀ B Wx σ ρ W φ H M a b d x y Q, SI X.K B W φ ρ M σ H → g a b = some d → RV X.K W H a x → RV X.K W H b y → Ct X.K B Wx σ ρ (RS X.K) W φ H (.ok (.v d) M) Q → r x y H Q) : OpM X f (onD g) := by
  refine opM_of h fun B Wx x y H Q ⟨σ, W, φ, ρ, M, s, t, I, r1, r2, q⟩ => ?_
  cases s with
  | r n => exact q.elim
  | v a =>
    cases t with
    | r n => exact q.elim
    | v b =>
      obtain ⟨d, e, q⟩ := eD_some q
      exact hr B Wx σ ρ W φ H M a b d x y Q I e r1 r2 q
theorem onI_of {f : Value → Value → Sem Value} {C : Int → Int → Prop} {k : Int → Int → V} {u : Int → Int → D} {g : D → D → Option D} (h : OpR X f (rI C k))
    (hg : ∀ a b d, g a b = some d → ∃ i j, a = .int i ∧ b = .int j ∧ C i j ∧ d = u i j) (hu : ∀ W H i j, RV X.K W H (u i j) (k i j)) : OpM X f (onD g) := by
  refine onD_of h fun B Wx σ ρ W φ H M a b d x y Q I e r1 r2 q => ?_
  obtain ⟨i, j, rfl, rfl, c, rfl⟩ := hg a b d e
  cases r1
  cases r2
  exact ⟨i, j, rfl, rfl, c, ct_ok (M := M) I q (hu W H i j)⟩
theorem onI0_of {f : Value → Value → Sem Value} {k : Int → Int → V} {u : Int → Int → D} {g : D → D → Option D} (h : OpR X f (rI0 k))
    (hg : ∀ a b d, g a b = some d → ∃ i j, a = .int i ∧ b = .int j ∧ d = u i j) (hu : ∀ W H i j, RV X.K W H (u i j) (k i j)) : OpM X f (onD g) := by
  refine onD_of h fun B Wx σ ρ W φ H M a b d x y Q I e r1 r2 q => ?_
  obtain ⟨i, j, rfl, rfl, rfl⟩ := hg a b d e
  cases r1
  cases r2
  exact ⟨i, j, rfl, rfl, ct_ok (M := M) I q (hu W H i j)⟩
theorem op_addD : OpM X (binaryOp .Add) (onD addD) := by
  refine onD_of (op_add.or (op_add_str.or op_catA)) fun B Wx σ ρ W φ H M a b d x y Q I e r1 r2 q => ?_
  cases r1 with
  | int i =>
    cases r2 with
    | int j =>
      cases e
      exact .inl ⟨_, _, rfl, rfl, ct_ok (M := M) I q (.int _)⟩
    | _ => cases e
  | str i =>
    cases r2 with
    | str j =>
      simp only [addD] at e
      split at e
      · rename_i hz
        cases e
        exact .inr (.inl ⟨_, _, rfl, rfl, by rw [sizeLine_eq]; exact hz, ct_ok (M := M) I q (.str _)⟩)
      · cases e
    | _ => cases e
  | tup h1 k1 =>
    cases r2 with
    | tup h2 k2 =>
      simp only [addD] at e
      split at e
      · rename_i hz
        cases e
        have l1 := k1.length
        have l2 := k2.length
        refine .inr (.inr ⟨_, _, _, _, rfl, rfl, h1.sq, h2.sq, by rw [sizeLine_eq, ← l1, ← l2]; exact hz, fun z => ?_, fun _ z => ?_, fun _ _ p hp => ?_⟩)
        · subst z
          cases k1
          exact ct_ok (M := M) I q (.tup h2 k2)
        · subst z
          cases k2
          exact ct_ok (M := M) I q (by rw [List.append_nil]; exact .tup h1 k1)
        · exact q W φ _ _ (I.new hp) (I.stbNew hp) (I.newTup hp (RVs.append k1 k2))
      · cases e
    | _ => cases e
  | _ => cases e
theorem op_subD : OpM X (binaryOp .Sub) (onD subD) := onI0_of (u := fun i j => .int (i - j)) op_sub (fun a b d e => by
  unfold subD at e
  split at e <;> first | (cases e; done) | (cases e; exact ⟨_, _, rfl, rfl, rfl⟩)) fun _ _ _ _ => .int _
theorem op_mulD : OpM X (binaryOp .Mult) (onD mulD) := onI_of (u := fun i j => .int (i * j)) op_mulW (fun a b d e => by
  unfold mulD at e
  split at e
  · split at e
    · rename_i h
      cases e
      exact ⟨_, _, rfl, rfl, mulOk_of h, rfl⟩
    · cases e
  · cases e) fun _ _ _ _ => .int _
theorem op_divD : OpM X (binaryOp .FloorDiv) (onD divD) := onI_of (u := fun i j => .int (i / j)) op_fdivW (fun a b d e => by
  unfold divD at e
  split at e
  · split at e
    · rename_i h
      cases e
      exact ⟨_, _, rfl, rfl, h, rfl⟩
    · cases e
  · cases e) fun _ _ _ _ => .int _
theorem op_modD : OpM X (binaryOp .Mod) (onD modD) := onI_of (u := fun i j => .int (i % j)) op_mod (fun a b d e => by
  unfold modD at e
  split at e
  · split at e
    · rename_i h
      cases e
      exact ⟨_, _, rfl, rfl, h, rfl⟩
    · cases e
  · cases e) fun _ _ _ _ => .int _
def CPw (i j : Int) : Prop := 0 ≤ j ∧ ((i.natAbs.log2 : Int) + 1) * j ≤ 2 ^ 27
theorem op_powW : OpR X (binaryOp .Pow) (rI CPw fun i j => .int (i ^ j.toNat)) := opI fun i j _ _ _ _ _ hc q => by
  refine pow_int hc.1 (Int.le_trans (Int.mul_le_mul_of_nonneg_right ?_ hc.1) hc.2) q
  have b : Builtin.Int.intBits i ≤ i.natAbs.log2 + 1 := by
    unfold Builtin.Int.intBits
    split <;> omega
  omega
theorem op_powD : OpM X (binaryOp .Pow) (onD powD) := onI_of (u := fun i j => .int (i ^ j.toNat)) op_powW (fun a b d e => by
  unfold powD at e
  split at e
  · split at e
    · rename_i h
      cases e
      exact ⟨_, _, rfl, rfl, ⟨h.1, h.2⟩, rfl⟩
    · cases e
  · cases e) fun _ _ _ _ => .int _
theorem op_cmpD {op : CmpOp} {p : Int → Int → Bool} (h : OpR X (compareOp op) (rI0 fun i j => .bl (p i j))) : OpM X (compareOp op) (onD (cmpD p)) := onI0_of (u := fun i j => .bl (p i j)) h (fun a b d e => by
  unfold cmpD at e
  split at e
  · cases e
    exact ⟨_, _, rfl, rfl, rfl⟩
  · cases e) fun _ _ _ _ => .bl _
theorem op_ltD : OpM X (compareOp .Lt) (onD ltD) := op_cmpD op_lt
theorem op_leD : OpM X (compareOp .LtE) (onD leD) := op_cmpD op_le
theorem op_gtD : OpM X (compareOp .Gt) (onD gtD) := op_cmpD op_gt
theorem op_geD : OpM X (compareOp .GtE) (onD geD) := op_cmpD op_ge
theorem op_eqDD (hu : X.A.units + 64 < cLine) : OpM X (compareOp .Eq) (onD eqD) := by
  refine onD_of (op_eqD hu) fun B Wx σ ρ W φ H M a b d x y Q I e r1 r2 q => ?_
  unfold eqD at e
  split at e
  · rename_i h
    cases e
    refine ⟨_, _, r1.dp _ h.1, r2.dp _ h.2, gd_shaped h.1 (by decide), gd_shaped h.2 (by decide), ?_⟩
    rw [eqv_toP _ _ _ _ h.1 h.2]
    exact ct_ok (M := M) I q (.bl _)
  · cases e
theorem op_neDD (hu : X.A.units + 64 < cLine) : OpM X (compareOp .NotEq) (onD neD) := by
  refine onD_of (op_neD hu) fun B Wx σ ρ W φ H M a b d x y Q I e r1 r2 q => ?_
  unfold neD at e
  split at e
  · rename_i h
    cases e
    refine ⟨_, _, r1.dp _ h.1, r2.dp _ h.2, gd_shaped h.1 (by decide), gd_shaped h.2 (by decide), ?_⟩
    rw [eqv_toP _ _ _ _ h.1 h.2]
    exact ct_ok (M := M) I q (.bl _)
  · cases e
theorem any_toPs {n : Nat} {a : D} (ga : gd n a = true) : ∀ {ds : List D}, (∀ d ∈ ds, gd n d = true) → (toPs ds).any (fun z => PyData.eqv z (toP a)) = ds.any fun z => eqvD z a
  | [], _ => rfl
  | d :: ds, h => by
    rw [toPs, List.any_cons, List.any_cons, eqv_toP n n d a (h d List.mem_cons_self) ga, any_toPs ga fun z hz => h z (List.mem_cons_of_mem _ hz)]
theorem gd_mono : ∀ (n : Nat) (d : D), gd n d = true → gd (n + 1) d = true
  | n, .non, _ => rfl
  | n, .bl _, _ => rfl
  | n, .int _, _ => rfl
  | n, .str _, h => by cases n <;> exact h
  | n + 1, .tup ds, h => List.all_eq_true.mpr fun d hd => gd_mono n d (List.all_eq_true.mp h d hd)
  | n + 1, .lst ds, h => List.all_eq_true.mpr fun d hd => gd_mono n d (List.all_eq_true.mp h d hd)
  | 0, .tup _, h => by cases h
  | 0, .lst _, h => by cases h
  | 0, .dct _, h => by cases h
  | _ + 1, .dct _, h => by cases h
  | 0, .adr _, h => by cases h
  | _ + 1, .adr _, h => by cases h
theorem gd_le {n m : Nat} {d : D} (h : gd n d = true) (l : n ≤ m) : gd m d = true := by
  induction l with
  | refl => exact h
  | step _ ih => exact gd_mono _ d ih
theorem op_inD (hu : X.A.units + 65 < cLine) : OpM X (compareOp .In) (onD inD) := by
  refine onD_of (L2.op_inD hu) fun B Wx σ ρ W φ H M a b d x y Q I e r1 r2 q => ?_
  unfold inD at e
  split at e
  · rename_i ds
    split at e
    · rename_i h
      cases e
      have h2 : ∀ z ∈ ds, gd 40 z = true := fun z hz => gd_mono 39 z (List.all_eq_true.mp h.2 z hz)
      refine ⟨_, _, r1.dp _ h.1, r2.dp _ h.2, gd_shaped h.1 (by decide), gd_shaped h.2 (by decide), ?_⟩
      rw [any_toPs h.1 h2]
      exact ct_ok (M := M) I q (.bl _)
    · cases e
  · cases e
/-- is None, is not None -/
def isN (s : S) (_ : S) (M : Mh) : REx S := match s with
  | .v d => .ok (.v (.bl (isNonD d))) M
  | .r _ => .bad
def notN (s : S) (_ : S) (M : Mh) : REx S := match s with
  | .v d => .ok (.v (.bl (!isNonD d))) M
  | .r _ => .bad
theorem isNon_of {K : PySem.W.Frag} {W : Addr → Prop} {H : Hp} {d : D} {x : V} (r : RV K W H d x) : decide (x = .non) = isNonD d := by
  cases r <;> rfl
theorem me_isN {a : Expr} {ea : Em S} {j : Nat} {pos pos' : Pos} (ha : ME X Wx a ea) : ME X Wx (.Compare a [.Is] [.Constant .none j pos'] pos) (eOp2 isN ea (er (.v .non))) := fun B =>
  pe_imp (pe_cmpR op_isN (ha B) pe_non (nomark _)) fun σ H Q ⟨W, φ, ρ, M, I, h⟩ => by
    refine tl_mono (ct_bind (R := RS X.K) I h) fun x H1 ⟨W1, φ1, M1, s, I1, st1, r1, h1⟩ => ?_
    refine ⟨rfl, ?_⟩
    cases s with
    | r n => exact h1.elim
    | v d =>
      rw [isNon_of r1]
      exact ct_ok (M := M1) I1 h1 (.bl _)
theorem me_notN {a : Expr} {ea : Em S} {j : Nat} {pos pos' : Pos} (ha : ME X Wx a ea) : ME X Wx (.Compare a [.IsNot] [.Constant .none j pos'] pos) (eOp2 notN ea (er (.v .non))) := fun B =>
  pe_imp (pe_cmpR op_notN (ha B) pe_non (nomark _)) fun σ H Q ⟨W, φ, ρ, M, I, h⟩ => by
    refine tl_mono (ct_bind (R := RS X.K) I h) fun x H1 ⟨W1, φ1, M1, s, I1, st1, r1, h1⟩ => ?_
    refine ⟨rfl, ?_⟩
    cases s with
    | r n => exact h1.elim
    | v d =>
      rw [isNon_of r1]
      exact ct_ok (M := M1) I1 h1 (.bl _)
/-- such a comparison as a test -/
theorem mt_isN {a : Expr} {ea : Em S} {j : Nat} {pos pos' : Pos} (ha : ME X Wx a ea) : MT X Wx (.Compare a [.Is] [.Constant .none j pos'] pos) (eTest (eOp2 isN ea (er (.v .non)))) := fun B => by
  refine pt_imp (pt_cmpR op_isN (ha B) pe_non (nomark _)) fun σ H Q h => ?_
  obtain ⟨W, φ, ρ, M, I, h⟩ := tB_of (ea := eOp2 isN ea (er (.v .non))) σ H Q h
  refine tl_mono (ct_bind (R := RS X.K) I h) fun x H1 ⟨W1, φ1, M1, s, I1, st1, r1, h1⟩ => ⟨rfl, ?_⟩
  cases s with
  | r n => exact h1.elim
  | v d =>
    rw [isNon_of r1]
    exact ct_ok (M := M1) I1 h1 (.bl _)
theorem mt_notN {a : Expr} {ea : Em S} {j : Nat} {pos pos' : Pos} (ha : ME X Wx a ea) : MT X Wx (.Compare a [.IsNot] [.Constant .none j pos'] pos) (eTest (eOp2 notN ea (er (.v .non)))) := fun B => by
  refine pt_imp (pt_cmpR op_notN (ha B) pe_non (nomark _)) fun σ H Q h => ?_
  obtain ⟨W, φ, ρ, M, I, h⟩ := tB_of (ea := eOp2 notN ea (er (.v .non))) σ H Q h
  refine tl_mono (ct_bind (R := RS X.K) I h) fun x H1 ⟨W1, φ1, M1, s, I1, st1, r1, h1⟩ => ⟨rfl, ?_⟩
  cases s with
  | r n => exact h1.elim
  | v d =>
    rw [isNon_of r1]
    exact ct_ok (M := M1) I1 h1 (.bl _)
def negD : D → Option D
  | .int i => some (.int (-i))
  | _ => none
theorem un_negD : UnM X (unaryOp .USub) (onD1 negD) := by
  refine unM_of un_neg fun B Wx x H Q ⟨σ, W, φ, ρ, M, s, I, r1, q⟩ => ?_
  cases s with
  | r n => exact q.elim
  | v a =>
    obtain ⟨d, e, q⟩ := eD_some q
    cases r1 with
    | int i =>
      cases e
      exact ⟨_, rfl, ct_ok (M := M) I q (.int _)⟩
    | _ => cases e
end
end Md
end
section
namespace Md
open PySem PySem.Spec PyProof.Rows L2

/-! ## lists just made -/
def CtF (K : PySem.W.Frag) (B : Bs) (Wx : WX) (σ : Sg) (ρ : Rho) (W : Addr → Prop) (φ : List (Option Addr)) (H : Hp) (res : REx (List D)) (Q : VK) : Prop :=
  match res with
  | .ok ds M' => ∀ W' φ' H' p vs, SI K B W' φ' ρ M' σ H' → Stb W φ H W' φ' H' → H' p = none → RVs K W' H' ds vs → Q (.ref p) (upd H' p (.lst vs))
  | .exn x M' => ∀ cls d W' φ' H', SI K B W' φ' ρ M' σ H' → XR K x cls d H' → Wx cls d σ H'
  | .bad => False
def tlF (K : PySem.W.Frag) (B : Bs) (Wx : WX) (em : Em (List D)) : TE := fun σ H Q => ∃ W φ ρ M, SI K B W φ ρ M σ H ∧ CtF K B Wx σ ρ W φ H (em ρ M) Q
def MF (X : Cx) (Wx : WX) (e : Expr) (em : Em (List D)) : Prop := ∀ B, PE X e (tlF X.K B Wx em)
def eFz (em : Em (List D)) : Em S := eb em fun ds => er (.v (.lst ds))
def eOwn (em : Em (List D)) : Em S := eb em fun ds => fun _ M => .ok (.r M.length) (M ++ [some (.lst (ds.map .v))])
theorem rs_of_rv {K : PySem.W.Frag} {W : Addr → Prop} {φ : List (Option Addr)} {H : Hp} : ∀ {ds : List D} {vs : List V}, RVs K W H ds vs → RSs K W φ H (ds.map .v) vs
  | _, _, .nil => .nil
  | _, _, .cons a r => .cons a (rs_of_rv r)
section
variable {X : Cx} {Wx : WX} {e : Expr} {em : Em (List D)}
theorem me_frz (h : MF X Wx e em) : ME X Wx e (eFz em) := fun B => pe_imp (h B) fun σ H Q ⟨W, φ, ρ, M, I, q⟩ => by
  refine ⟨W, φ, ρ, M, I, ?_⟩
  unfold eFz eb at q
  generalize em ρ M = res at q ⊢
  cases res with
  | bad => exact q
  | exn x M => exact q
  | ok ds M => exact fun W' φ' H' p vs I' st hp r => q W' φ' _ _ (I'.new hp) (st.trans (I'.stbNew hp)) (I'.newLst hp r)
theorem me_own (h : MF X Wx e em) : ME X Wx e (eOwn em) := fun B => pe_imp (h B) fun σ H Q ⟨W, φ, ρ, M, I, q⟩ => by
  refine ⟨W, φ, ρ, M, I, ?_⟩
  unfold eOwn eb at q
  generalize em ρ M = res at q ⊢
  cases res with
  | bad => exact q
  | exn x M => exact q
  | ok ds M =>
    intro W' φ' H' p vs I' st hp r
    refine q _ _ _ _ (I'.newOwn (ho := .lst vs) (o := .lst (ds.map .v)) hp (I'.free hp) (rs_of_rv r)) (st.trans (I'.stbOwn hp)) ⟨some p, ?_, fun a z => by rw [Option.some.inj z]⟩
    rw [← I'.len]
    simp
end
/-- all frozen -/
def frzS : List S → Option (List D)
  | [] => some []
  | .v d :: r => (match frzS r with
    | some ds => some (d :: ds)
    | none => none)
  | .r _ :: _ => none
theorem frzS_ok {K : PySem.W.Frag} {W : Addr → Prop} {φ : List (Option Addr)} {H : Hp} : ∀ {ss : List S} {ds : List D} {vs : List V}, frzS ss = some ds → RSs K W φ H ss vs → RVs K W H ds vs
  | [], _, _, e, .nil => by
    cases e
    exact .nil
  | .v d :: ss, _, _, e, .cons a r => by
    simp only [frzS] at e
    split at e
    · rename_i ds' h
      cases e
      exact .cons a (frzS_ok h r)
    · cases e
  | .r n :: ss, _, _, e, .cons a r => by cases e
theorem frzS_map : ∀ ds : List D, frzS (ds.map .v) = some ds
  | [] => rfl
  | d :: ds => by simp only [List.map_cons, frzS, frzS_map ds]

/-! ## displays -/
def eTup (a : Em (List S)) : Em S := eb a fun ss => match frzS ss with
  | some ds => if ds.length ≤ 16777216 then er (.v (.tup ds)) else eX
  | none => eX
def eLst (a : Em (List S)) : Em (List D) := eb a fun ss => match frzS ss with
  | some ds => if ds.length ≤ 16777216 then er ds else eX
  | none => eX
theorem ct_bindF {α β : Type} {K : PySem.W.Frag} {B : Bs} {Wx : WX} {σ : Sg} {ρ : Rho} {W : Addr → Prop} {φ : List (Option Addr)} {H : Hp} {M : Mh} {R : (Addr → Prop) → List (Option Addr) → Hp → α → β → Prop} {ea : Em α} {k : α → Em (List D)} {Q : VK}
    (I : SI K B W φ ρ M σ H) (h : CtF K B Wx σ ρ W φ H (eb ea k ρ M) Q) :
    tl K B Wx R ea σ H fun x H1 => ∃ W1 φ1 M1 a, SI K B W1 φ1 ρ M1 σ H1 ∧ Stb W φ H W1 φ1 H1 ∧ R W1 φ1 H1 a x ∧ CtF K B Wx σ ρ W1 φ1 H1 (k a ρ M1) Q := by
  refine ⟨W, φ, ρ, M, I, ?_⟩
  unfold eb at h
  cases e : ea ρ M with
  | ok a M1 =>
    rw [e] at h
    change CtF K B Wx σ ρ W φ H (k a ρ M1) Q at h
    refine fun W' φ' H' b I' st r => ⟨W', φ', M1, a, I', st, r, ?_⟩
    generalize k a ρ M1 = res at h ⊢
    cases res with
    | bad => exact h
    | exn x M => exact h
    | ok ds M => exact fun W2 φ2 H2 p vs I2 st2 hp r2 => h W2 φ2 H2 p vs I2 (st.trans st2) hp r2
  | exn x M1 =>
    rw [e] at h
    exact h
  | bad =>
    rw [e] at h
    exact h
theorem ctF_ok {K : PySem.W.Frag} {B : Bs} {Wx : WX} {σ : Sg} {ρ : Rho} {W : Addr → Prop} {φ : List (Option Addr)} {H : Hp} {M : Mh} {ds : List D} {Q : VK} {p : Addr} {vs : List V} (I : SI K B W φ ρ M σ H) (h : CtF K B Wx σ ρ W φ H (.ok ds M) Q) (hp : H p = none) (r : RVs K W H ds vs) : Q (.ref p) (upd H p (.lst vs)) :=
  h W φ H p vs I Stb.refl hp r
section
variable {X : Cx} {Wx : WX} {es : List Expr} {ea : Em (List S)} {pos : Pos}
theorem me_tup {x1 : Nat} (h : MA X Wx es ea) : ME X Wx (.Tuple es x1 pos) (eTup ea) := fun B => pe_imp (pe_tup (h B)) fun σ H Q ⟨W, φ, ρ, M, I, q⟩ => by
  refine tl_mono (ct_bind (R := RSs X.K) I q) fun xs H1 ⟨W1, φ1, M1, ss, I1, st1, r1, h1⟩ => ?_
  cases e : frzS ss with
  | none =>
    simp only [e] at h1
    exact h1.elim
  | some ds =>
    simp only [e] at h1
    have r2 := frzS_ok e r1
    split at h1
    · rename_i hz
      refine ⟨by rw [← r2.length, sizeLine_eq]; exact hz, fun p hp => ?_⟩
      exact h1 W1 φ1 _ _ (I1.new hp) (I1.stbNew hp) (I1.newTup hp r2)
    · exact h1.elim
theorem mf_lst (h : MA X Wx es ea) : MF X Wx (.List es pos) (eLst ea) := fun B => pe_imp (pe_lst (h B)) fun σ H Q ⟨W, φ, ρ, M, I, q⟩ => by
  refine tl_mono (ct_bindF (R := RSs X.K) I q) fun xs H1 ⟨W1, φ1, M1, ss, I1, st1, r1, h1⟩ => ?_
  cases e : frzS ss with
  | none =>
    simp only [e] at h1
    exact h1.elim
  | some ds =>
    simp only [e] at h1
    have r2 := frzS_ok e r1
    split at h1
    · rename_i hz
      exact ⟨by rw [← r2.length, sizeLine_eq]; exact hz, fun p hp => ctF_ok (M := M1) I1 h1 hp r2⟩
    · exact h1.elim
end

/-! ## subscripts -/
def getI {α : Type} (xs : List α) (i : Int) : Option α := if 0 ≤ i then xs[i.toNat]? else if 0 ≤ i + xs.length then xs[(i + xs.length).toNat]? else none
theorem atI_of {α : Type} {xs : List α} {i : Int} {v : α} (h : getI xs i = some v) : atI xs i = some v := by
  unfold getI at h
  unfold atI ixN
  split at h
  · rename_i h0
    have hl := (List.getElem?_eq_some_iff.mp h).1
    rw [if_pos h0, if_pos (by omega)]
    exact h
  · rename_i h0
    split at h
    · rename_i h1
      rw [if_neg h0, if_pos (by omega)]
      exact h
    · cases h
theorem RSs.get {K : PySem.W.Frag} {W : Addr → Prop} {φ : List (Option Addr)} {H : Hp} : ∀ {ss : List S} {xs : List V} {i : Nat} {s : S}, RSs K W φ H ss xs → ss[i]? = some s → ∃ x, xs[i]? = some x ∧ RS K W φ H s x
  | _, _, _, _, .nil, e => by simp at e
  | _, _, 0, _, .cons a r, e => by
    simp at e
    subst e
    exact ⟨_, rfl, a⟩
  | _, _, i + 1, _, .cons a r, e => by
    obtain ⟨x, h1, h2⟩ := RSs.get (i := i) r (by simpa using e)
    exact ⟨x, by simpa using h1, h2⟩
theorem getI_pair {α β : Type} {xs : List α} {ys : List β} {i : Int} {v : α} (hl : xs.length = ys.length) (h : getI xs i = some v) {P : β → Prop} (g : ∀ (j : Nat), xs[j]? = some v → ∃ y, ys[j]? = some y ∧ P y) : ∃ y, getI ys i = some y ∧ P y := by
  unfold getI at h ⊢
  rw [← hl]
  split at h
  · rename_i h0
    rw [if_pos h0]
    exact g _ h
  · rename_i h0
    rw [if_neg h0]
    split at h
    · rename_i h1
      rw [if_pos h1]
      exact g _ h
    · cases h
def ixD : D → D → Option D
  | .tup ds, .int i => getI ds i
  | .lst ds, .int i => getI ds i
  | .str z, .int i => if z.length ≤ 16777216 then (match getI z.cps.toList i with
    | some c => some (.str ⟨#[c]⟩)
    | none => none) else none
  | _, _ => none
def ixS (a i : S) (M : Mh) : REx S := match a, i with
  | .v d, .v j => eD M (ixD d j)
  | .r n, .v (.int j) => (match M[n]? with
    | some (some (.lst xs)) => (match getI xs j with
      | some s => .ok s M
      | none => .bad)
    | _ => .bad)
  | _, _ => .bad
section
variable {X : Cx} {Wx : WX} {a b : Expr} {ea ec : Em S} {pos : Pos}
theorem me_ix (ha : ME X Wx a ea) (hb : ME X Wx b ec) (hs : PlainIx b) : ME X Wx (.Subscript a b pos) (eOp2 ixS ea ec) := fun B => by
  refine pe_imp (pe_ix ix_seq (ha B) (hb B) hs) (two_of fun x y H Q ⟨σ, W, φ, ρ, M, s, t, I, r1, r2, q⟩ => ?_)
  cases s with
  | r n =>
    cases t with
    | r m => exact q.elim
    | v d =>
      cases d with
      | int j =>
        change Ct X.K B Wx σ ρ (RS X.K) W φ H (match M[n]? with
          | some (some (.lst xs)) => (match getI xs j with
            | some s => .ok s M
            | none => .bad)
          | _ => .bad) Q at q
        split at q
        · rename_i xs hM
          split at q
          · rename_i s hg
            obtain ⟨c, ho, e1, e2, e3⟩ := I.obj n _ hM
            obtain ⟨y', e4, e5⟩ := r1
            rw [e1] at e4
            have e6 := e5 c (Option.some.inj e4).symm
            subst e6
            cases r2
            cases ho <;> first
              | exact e3.elim
              | skip
            obtain ⟨x, g1, g2⟩ := getI_pair (Paired.length e3) hg (P := fun x => RS X.K W φ H s x) fun i h => RSs.get e3 h
            exact .inl ⟨c, _, j, x, rfl, rfl, .inl (.inl e2), atI_of g1, ct_ok (R := RS X.K) (M := M) I q g2⟩
          · exact q.elim
        · exact q.elim
      | _ => exact q.elim
  | v d =>
    cases t with
    | r m => cases d <;> exact q.elim
    | v i =>
      obtain ⟨z, e, q2⟩ := eD_some q
      clear q
      cases r1 with
      | tup h1 k1 =>
        cases r2 with
        | int j =>
          obtain ⟨x, g1, g2⟩ := getI_pair k1.length e (P := fun x => RV X.K W H z x) fun i h => k1.get h
          exact .inr (.inl ⟨_, _, j, x, rfl, rfl, h1.sq, atI_of g1, ct_ok (R := RS X.K) (M := M) I q2 g2⟩)
        | _ => cases e
      | lst h1 k1 =>
        cases r2 with
        | int j =>
          obtain ⟨x, g1, g2⟩ := getI_pair k1.length e (P := fun x => RV X.K W H z x) fun i h => k1.get h
          exact .inl ⟨_, _, j, x, rfl, rfl, h1.sq, atI_of g1, ct_ok (R := RS X.K) (M := M) I q2 g2⟩
        | _ => cases e
      | str w =>
        cases r2 with
        | int j =>
          simp only [ixD] at e
          split at e
          · rename_i hz
            split at e
            · rename_i c hc
              cases e
              exact .inr (.inr ⟨w, j, c, rfl, rfl, by rw [sizeLine_eq]; exact hz, atI_of hc, ct_ok (M := M) I q2 (.str _)⟩)
            · cases e
          · cases e
        | _ => cases e
      | _ => cases r2 <;> cases e

/-! ## slices -/
abbrev RO : (Addr → Prop) → List (Option Addr) → Hp → Option Int → Option Int → Prop := fun _ _ _ a b => b = a
def MP (X : Cx) (Wx : WX) (o : Option Expr) (em : Em (Option Int)) : Prop := ∀ B, PO X o (tl X.K B Wx RO em)
def eNo : Em (Option Int) := er none
def ePart (a : Em S) : Em (Option Int) := eb a fun s => match s with
  | .v (.int i) => er (some i)
  | _ => eX
theorem po_imp {X : Cx} {e : Option Expr} {t t' : TO} (h : PO X e t) (i : ∀ σ H Q, t' σ H Q → t σ H Q) : PO X e t' := ⟨fun pins s σ H Q I q => h.run pins s σ H Q I (i σ H Q q)⟩
theorem mp_none : MP X Wx none eNo := fun B => po_imp po_none fun σ H Q ⟨W, φ, ρ, M, I, h⟩ => ct_ok (M := M) I h rfl
theorem mp_some (ha : ME X Wx a ea) : MP X Wx (some a) (ePart ea) := fun B => po_imp (po_some (ha B)) fun σ H Q ⟨W, φ, ρ, M, I, h⟩ => by
  refine tl_mono (ct_bind (R := RS X.K) I h) fun x H1 ⟨W1, φ1, M1, s, I1, st1, r1, h1⟩ => ?_
  cases s with
  | r n => exact h1.elim
  | v d =>
    cases d with
    | int i =>
      cases r1
      exact ⟨i, rfl, ct_ok (M := M1) I1 h1 rfl⟩
    | _ => exact h1.elim
def cutD {α : Type} (xs : List α) (lo hi : Option Int) : List α := (xs.drop (HT.sIx xs.length 0 lo)).take (HT.sIx xs.length xs.length hi - HT.sIx xs.length 0 lo)
def slD (d : D) (lo hi : Option Int) : Option D := match d with
  | .tup ds => some (.tup (cutD ds lo hi))
  | .str z => if z.length ≤ 16777216 then some (.str (cutS z lo hi)) else none
  | _ => none
def eSl (a : Em S) (lo hi : Em (Option Int)) : Em S := eb a fun s => eb lo fun l => eb hi fun h => fun _ M => match s with
  | .v d => eD M (slD d l h)
  | .r _ => .bad
/-- the slice of a list, just made -/
def eSlF (a : Em S) (lo hi : Em (Option Int)) : Em (List D) := eb a fun s => eb lo fun l => eb hi fun h => fun _ M => match s with
  | .v (.lst ds) => .ok (cutD ds l h) M
  | .v _ => .bad
  | .r n => (match M[n]? with
    | some (some (.lst xs)) => (match frzS (cutD xs l h) with
      | some ds => .ok ds M
      | none => .bad)
    | _ => .bad)
theorem cut_rvs {K : PySem.W.Frag} {W : Addr → Prop} {H : Hp} {ds : List D} {xs : List V} (r : RVs K W H ds xs) (lo hi : Option Int) : RVs K W H (cutD ds lo hi) (cutV xs lo hi) := by
  unfold cutD cutV
  rw [r.length]
  exact (r.drop _).take _
theorem RSs.takeS {K : PySem.W.Frag} {W : Addr → Prop} {φ : List (Option Addr)} {H : Hp} : ∀ (n : Nat) {ds : List S} {xs : List V}, RSs K W φ H ds xs → RSs K W φ H (ds.take n) (xs.take n)
  | 0, _, _, _ => .nil
  | _ + 1, _, _, .nil => .nil
  | n + 1, _, _, .cons a r => .cons a (RSs.takeS n r)
theorem RSs.dropS {K : PySem.W.Frag} {W : Addr → Prop} {φ : List (Option Addr)} {H : Hp} : ∀ (n : Nat) {ds : List S} {xs : List V}, RSs K W φ H ds xs → RSs K W φ H (ds.drop n) (xs.drop n)
  | 0, _, _, h => h
  | _ + 1, _, _, .nil => .nil
  | n + 1, _, _, .cons a r => RSs.dropS n r
theorem cut_rss {K : PySem.W.Frag} {W : Addr → Prop} {φ : List (Option Addr)} {H : Hp} {ds : List S} {xs : List V} (r : RSs K W φ H ds xs) (lo hi : Option Int) : RSs K W φ H (cutD ds lo hi) (cutV xs lo hi) := by
  unfold cutD cutV
  rw [Paired.length r]
  exact RSs.takeS _ (RSs.dropS _ r)
theorem me_sl {lo hi : Option Expr} {el eh : Em (Option Int)} {p2 : Pos} (ha : ME X Wx a ea) (hl : MP X Wx lo el) (hh : MP X Wx hi eh) : ME X Wx (.Subscript a (.Slice lo hi none p2) pos) (eSl ea el eh) := fun B =>
  pe_imp (pe_slice (sl_str.or sl_tupA) (ha B) (hl B) (hh B)) fun σ H Q ⟨W, φ, ρ, M, I, h⟩ => by
    refine tl_mono (ct_bind (R := RS X.K) I h) fun x H1 ⟨W1, φ1, M1, s, I1, st1, r1, h1⟩ => ?_
    refine tl_mono (ct_bind (R := RO) I1 h1) fun l H2 ⟨W2, φ2, M2, l', I2, st2, r2, h2⟩ => ?_
    refine tl_mono (ct_bind (R := RO) I2 h2) fun u H3 ⟨W3, φ3, M3, u', I3, st3, r3, h3⟩ => ?_
    cases r2
    cases r3
    have r4 := (r1.stb st2).stb st3
    cases s with
    | r n => exact h3.elim
    | v d =>
      obtain ⟨z, e, q⟩ := eD_some h3
      cases r4 with
      | tup k1 k2 =>
        cases e
        have kl := k2.length
        refine .inr ⟨_, _, rfl, k1.sq, fun w => ?_, fun w p hp => q W3 φ3 _ _ (I3.new hp) (I3.stbNew hp) (I3.newTup hp (cut_rvs k2 l u))⟩
        refine ct_ok (M := M3) I3 q (.tup k1 ?_)
        have e2 := cut_rvs k2 l u
        unfold cutV at e2
        rw [w.1, w.2, List.drop_zero, Nat.sub_zero, List.take_length] at e2
        exact e2
      | str w =>
        simp only [slD] at e
        split at e
        · rename_i hz
          cases e
          exact .inl ⟨w, rfl, by rw [sizeLine_eq]; exact hz, ct_ok (M := M3) I3 q (.str _)⟩
        · cases e
      | _ => cases e
theorem mf_sl {lo hi : Option Expr} {el eh : Em (Option Int)} {p2 : Pos} (ha : ME X Wx a ea) (hl : MP X Wx lo el) (hh : MP X Wx hi eh) : MF X Wx (.Subscript a (.Slice lo hi none p2) pos) (eSlF ea el eh) := fun B =>
  pe_imp (pe_slice sl_list (ha B) (hl B) (hh B)) fun σ H Q ⟨W, φ, ρ, M, I, h⟩ => by
    refine tl_mono (ct_bindF (R := RS X.K) I h) fun x H1 ⟨W1, φ1, M1, s, I1, st1, r1, h1⟩ => ?_
    refine tl_mono (ct_bindF (R := RO) I1 h1) fun l H2 ⟨W2, φ2, M2, l', I2, st2, r2, h2⟩ => ?_
    refine tl_mono (ct_bindF (R := RO) I2 h2) fun u H3 ⟨W3, φ3, M3, u', I3, st3, r3, h3⟩ => ?_
    cases r2
    cases r3
    have r4 := (r1.stb st2).stb st3
    cases s with
    | r n =>
      change CtF X.K B Wx σ ρ W3 φ3 H3 (match M3[n]? with
        | some (some (.lst xs)) => (match frzS (cutD xs l u) with
          | some ds => .ok ds M3
          | none => .bad)
        | _ => .bad) Q at h3
      split at h3
      · rename_i xs hM
        split at h3
        · rename_i ds hf
          obtain ⟨c, ho, e1, e2, e3⟩ := I3.obj n _ hM
          obtain ⟨y', e4, e5⟩ := r4
          rw [e1] at e4
          have e6 := e5 c (Option.some.inj e4).symm
          subst e6
          cases ho <;> first
            | exact e3.elim
            | exact ⟨c, _, rfl, .inl (.inl e2), fun p hp => ctF_ok (M := M3) I3 h3 hp (frzS_ok hf (cut_rss e3 l u))⟩
        · exact h3.elim
      · exact h3.elim
    | v d =>
      cases r4 with
      | lst k1 k2 => exact ⟨_, _, rfl, k1.sq, fun p hp => ctF_ok (M := M3) I3 h3 hp (cut_rvs k2 l u)⟩
      | _ => exact h3.elim
end
end Md
end
section
namespace Md
open PySem PySem.Spec PyProof.Rows L2

/-! ## mirrors of statements -/
inductive RSt where
  | nx (ρ : Rho) (M : Mh) | rt (s : S) (M : Mh) | bk (ρ : Rho) (M : Mh) | ct (ρ : Rho) (M : Mh) | exn (x : Xc) (ρ : Rho) (M : Mh) | bad
abbrev Sm := Rho → Mh → RSt
def CtS (K : PySem.W.Frag) (B : Bs) (Wx : WX) (W : Addr → Prop) (H : Hp) (res : RSt) (E : Ends) : Prop :=
  match res with
  | .nx ρ M => ∀ W' φ' σ' H', SI K B W' φ' ρ M σ' H' → Stw W H W' H' → E.nx σ' H'
  | .bk ρ M => ∀ W' φ' σ' H', SI K B W' φ' ρ M σ' H' → Stw W H W' H' → E.bk σ' H'
  | .ct ρ M => ∀ W' φ' σ' H', SI K B W' φ' ρ M σ' H' → Stw W H W' H' → E.ct σ' H'
  | .rt s M => ∀ W' φ' ρ' σ' H' x, SI K B W' φ' ρ' M σ' H' → Stw W H W' H' → RS K W' φ' H' s x → E.rt x H'
  | .exn x ρ M => ∀ cls d W' φ' σ' H', SI K B W' φ' ρ M σ' H' → XR K x cls d H' → Wx cls d σ' H'
  | .bad => False
def tls (K : PySem.W.Frag) (B : Bs) (Wx : WX) (sm : Sm) : TS := fun E σ H => ∃ W φ ρ M, SI K B W φ ρ M σ H ∧ CtS K B Wx W H (sm ρ M) E
theorem CtS.base {K : PySem.W.Frag} {B : Bs} {Wx : WX} {W W1 : Addr → Prop} {H H1 : Hp} {res : RSt} {E : Ends} (h : CtS K B Wx W H res E) (st : Stw W H W1 H1) : CtS K B Wx W1 H1 res E := by
  cases res with
  | nx ρ M => exact fun W' φ' σ' H' I s => h W' φ' σ' H' I (st.trans s)
  | bk ρ M => exact fun W' φ' σ' H' I s => h W' φ' σ' H' I (st.trans s)
  | ct ρ M => exact fun W' φ' σ' H' I s => h W' φ' σ' H' I (st.trans s)
  | rt s M => exact fun W' φ' ρ' σ' H' x I s r => h W' φ' ρ' σ' H' x I (st.trans s) r
  | exn x ρ M => exact h
  | bad => exact h
def MS (X : Cx) (Wx : WX) (k : Nat) (st : Stmt) (sm : Sm) : Prop := ∀ B : Bs, B.p0.length = k → PS X st (tls X.K B Wx sm)
def MSs (X : Cx) (Wx : WX) (k : Nat) (st : List Stmt) (sm : Sm) : Prop := ∀ B : Bs, B.p0.length = k → PSs X st (tls X.K B Wx sm)
theorem ps_imp {X : Cx} {e : Stmt} {t t' : TS} (h : PS X e t) (i : ∀ E σ H, t' E σ H → t E σ H) : PS X e t' := ⟨fun pins s σ H E I q => h.run pins s σ H E I (i E σ H q)⟩
theorem pss_imp {X : Cx} {e : List Stmt} {t t' : TS} (h : PSs X e t) (i : ∀ E σ H, t' E σ H → t E σ H) : PSs X e t' := ⟨fun pins s σ H E I q => h.run pins s σ H E I (i E σ H q)⟩
/-- an expression, then a statement's mirror -/
def sB {α : Type} (e : Em α) (k : α → Sm) : Sm := fun ρ M => match e ρ M with
  | .ok a M1 => k a ρ M1
  | .exn x M1 => .exn x ρ M1
  | .bad => .bad
theorem ct_sB {α β : Type} {K : PySem.W.Frag} {B : Bs} {Wx : WX} {σ : Sg} {ρ : Rho} {W : Addr → Prop} {φ : List (Option Addr)} {H : Hp} {M : Mh} {R : (Addr → Prop) → List (Option Addr) → Hp → α → β → Prop} {e : Em α} {k : α → Sm} {E : Ends}
    (I : SI K B W φ ρ M σ H) (h : CtS K B Wx W H (sB e k ρ M) E) :
    tl K B Wx R e σ H fun x H1 => ∃ W1 φ1 M1 a, SI K B W1 φ1 ρ M1 σ H1 ∧ Stb W φ H W1 φ1 H1 ∧ R W1 φ1 H1 a x ∧ CtS K B Wx W1 H1 (k a ρ M1) E := by
  refine ⟨W, φ, ρ, M, I, ?_⟩
  unfold sB at h
  cases q : e ρ M with
  | ok a M1 =>
    rw [q] at h
    exact fun W' φ' H' b I' st r => ⟨W', φ', M1, a, I', st, r, CtS.base h st.tw⟩
  | exn x M1 =>
    rw [q] at h
    exact fun cls d W' φ' H' I' xr => h cls d W' φ' σ H' I' xr
  | bad =>
    rw [q] at h
    exact h
def sNx : Sm := fun ρ M => .nx ρ M
def sSeq (a b : Sm) : Sm := fun ρ M => match a ρ M with
  | .nx ρ' M' => b ρ' M'
  | r => r
def sRet (e : Em S) : Sm := sB e fun s => fun _ M => .rt s M
def sRetN : Sm := fun _ M => .rt (.v .non) M
def sEx (e : Em S) : Sm := sB e fun _ => sNx
def sSet (i : Nat) (e : Em S) : Sm := sB e fun s => fun ρ M => .nx (ρ.set i (some s)) M
def sIf (t : Em Bool) (a b : Sm) : Sm := sB t fun c => if c = true then a else b
section
variable {X : Cx} {Wx : WX} {k : Nat} {st : Stmt} {rest : List Stmt} {a b : Sm} {e : Expr} {em : Em S} {pos : Pos}
theorem mss_nil : MSs X Wx k [] sNx := fun B hB => pss_imp pss_nil fun E σ H ⟨W, φ, ρ, M, I, h⟩ => h W φ σ H I Stw.refl
theorem mss_cons (h1 : MS X Wx k st a) (h2 : MSs X Wx k rest b) : MSs X Wx k (st :: rest) (sSeq a b) := fun B hB => pss_imp (pss_cons (h1 B hB) (h2 B hB)) fun E σ H ⟨W, φ, ρ, M, I, h⟩ => by
  refine ⟨W, φ, ρ, M, I, ?_⟩
  unfold sSeq at h
  generalize a ρ M = res at h ⊢
  cases res with
  | nx ρ' M' => exact fun W' φ' σ' H' I' st => ⟨W', φ', ρ', M', I', CtS.base h st⟩
  | _ => exact h
theorem mss_one (h1 : MS X Wx k st a) : MSs X Wx k [st] a := fun B hB => pss_one (h1 B hB)
theorem ms_pass : MS X Wx k (.Pass pos) sNx := fun B hB => ps_imp ps_pass fun E σ H ⟨W, φ, ρ, M, I, h⟩ => h W φ σ H I Stw.refl
theorem ms_break : MS X Wx k (.Break pos) (fun ρ M => .bk ρ M) := fun B hB => ps_imp ps_break fun E σ H ⟨W, φ, ρ, M, I, h⟩ => h W φ σ H I Stw.refl
theorem ms_cont : MS X Wx k (.Continue pos) (fun ρ M => .ct ρ M) := fun B hB => ps_imp ps_continue fun E σ H ⟨W, φ, ρ, M, I, h⟩ => h W φ σ H I Stw.refl
theorem ms_ret (he : ME X Wx e em) : MS X Wx k (.Return (some e) pos) (sRet em) := fun B hB => ps_imp (ps_ret (he B)) fun E σ H ⟨W, φ, ρ, M, I, h⟩ =>
  tl_mono (ct_sB (R := RS X.K) I h) fun x H1 ⟨W1, φ1, M1, s, I1, st1, r1, h1⟩ => h1 W1 φ1 _ _ H1 x I1 Stw.refl r1
theorem ms_retN : MS X Wx k (.Return none pos) sRetN := fun B hB => ps_imp ps_retN fun E σ H ⟨W, φ, ρ, M, I, h⟩ => h W φ _ _ H _ I Stw.refl .non
theorem ms_ex (he : ME X Wx e em) (hs : swapsWith e none pos.line X.env = pure false := by rfl) : MS X Wx k (.Expr e pos) (sEx em) := fun B hB => ps_imp (ps_expr (he B) hs) fun E σ H ⟨W, φ, ρ, M, I, h⟩ =>
  tl_mono (ct_sB (R := RS X.K) I h) fun x H1 ⟨W1, φ1, M1, s, I1, st1, r1, h1⟩ => h1 W1 φ1 σ H1 I1 Stw.refl
theorem ms_set {i : Nat} {x : Str} {pos' : Pos} (hN : X.N.Nodup) (he : ME X Wx e em) (hi : X.N[i]? = some x := by rfl) (hx : Loc X.env.scope x := by first | exact .inl rfl | exact .inr rfl) (hs : swapsWith e (some (.Name x pos')) pos.line X.env = pure false := by rfl)
    (hf : X.fn x = true ∨ X.env.scope.names.lookup x = some .local := by first | exact .inl rfl | exact .inr rfl | assumption) : MS X Wx k (.Assign [.Name x pos'] e pos) (sSet i em) := fun B hB =>
  ps_imp (ps_set hN hi hx (he B) hs hf) fun E σ H ⟨W, φ, ρ, M, I, h⟩ =>
    tl_mono (ct_sB (R := RS X.K) I h) fun x H1 ⟨W1, φ1, M1, s, I1, st1, r1, h1⟩ => h1 W1 φ1 _ H1 (I1.set r1) Stw.refl
theorem ms_if {c : Expr} {t : Em Bool} {xs ys : List Stmt} (hc : MT X Wx c t) (ha : MSs X Wx k xs a) (hb : MSs X Wx k ys b) : MS X Wx k (.If c xs ys pos) (sIf t a b) := fun B hB => ps_imp (ps_if (hc B) (ha B hB) (hb B hB)) fun E σ H ⟨W, φ, ρ, M, I, h⟩ => by
  refine tl_mono (ct_sB (R := RB) I h) fun x H1 ⟨W1, φ1, M1, s, I1, st1, r1, h1⟩ => ?_
  cases r1
  cases x with
  | true => exact ⟨W1, φ1, _, M1, I1, h1⟩
  | false => exact ⟨W1, φ1, _, M1, I1, h1⟩
/-! ### steps of the proof alone -/
/-- slots are forgotten -/
def killR : List Nat → Rho → Rho
  | [], ρ => ρ
  | i :: is, ρ => (killR is ρ).set i none
theorem killR_length : ∀ (is : List Nat) (ρ : Rho), (killR is ρ).length = ρ.length
  | [], _ => rfl
  | i :: is, ρ => by rw [killR, List.length_set, killR_length]
theorem killR_some : ∀ (is : List Nat) {ρ : Rho} {j : Nat} {s : S}, (killR is ρ)[j]? = some (some s) → ρ[j]? = some (some s)
  | [], _, _, _, h => h
  | i :: is, ρ, j, s, h => by
    rw [killR] at h
    by_cases q : i = j
    · subst q
      by_cases l : i < (killR is ρ).length
      · rw [List.getElem?_set_self l] at h
        cases h
      · rw [List.getElem?_eq_none (by simpa using l)] at h
        cases h
    · rw [List.getElem?_set_ne q] at h
      exact killR_some is h
def sKill (is : List Nat) (a : Sm) : Sm := fun ρ M => match a ρ M with
  | .nx ρ' M' => .nx (killR is ρ') M'
  | .ct ρ' M' => .ct (killR is ρ') M'
  | r => r
theorem mss_kill (is : List Nat) {sts : List Stmt} (h : MSs X Wx k sts a) : MSs X Wx k sts (sKill is a) := fun B hB => pss_imp (h B hB) fun E σ H ⟨W, φ, ρ, M, I, q⟩ => by
  refine ⟨W, φ, ρ, M, I, ?_⟩
  unfold sKill at q
  generalize a ρ M = res at q ⊢
  cases res with
  | nx ρ' M' => exact fun W' φ' σ' H' I' st => q W' φ' σ' H' (I'.less (killR_length is ρ') fun i s e => killR_some is e) st
  | ct ρ' M' => exact fun W' φ' σ' H' I' st => q W' φ' σ' H' (I'.less (killR_length is ρ') fun i s e => killR_some is e) st
  | _ => exact q
/-- an own list in slot i is frozen -/
def frzR (i : Nat) (ρ : Rho) (M : Mh) : Option (Rho × Mh) := match ρ[i]? with
  | some (some (.r n)) => (match M[n]? with
    | some (some (.lst xs)) => (match frzS xs with
      | some ds => some (ρ.set i (some (.v (.lst ds))), M.set n none)
      | none => none)
    | _ => none)
  | _ => none
def sFrz (k i : Nat) (a : Sm) : Sm := fun ρ M => match ρ[i]? with
  | some (some (.r n)) => if k ≤ n then (match frzR i ρ M with
    | some (ρ', M') => a ρ' M'
    | none => .bad) else .bad
  | _ => .bad
theorem SI.freeze {K : PySem.W.Frag} {B : Bs} {W : Addr → Prop} {φ : List (Option Addr)} {ρ : Rho} {M : Mh} {σ : Sg} {H : Hp} (I : SI K B W φ ρ M σ H) {i n : Nat} {xs : List S} {ds : List D} (hk : B.p0.length ≤ n) (hi : ρ[i]? = some (some (.r n))) (hM : M[n]? = some (some (.lst xs))) (hf : frzS xs = some ds) :
    ∃ W' φ', SI K B W' φ' (ρ.set i (some (.v (.lst ds)))) (M.set n none) σ H ∧ Stw W H W' H := by
  obtain ⟨a, ho, e1, e2, e3⟩ := I.obj n _ hM
  have hn : n < M.length := (List.getElem?_eq_some_iff.mp hM).1
  have hnφ : n < φ.length := by rw [I.len]; exact hn
  have h0 := I.kn n a hk e1
  have st : Stw W H (fun b => W b ∧ b ≠ a) H := ⟨fun b z => .inl z.1, fun _ _ _ e => e⟩
  have at_ : ∀ (j : Nat) (b : Addr), (φ.set n none)[j]? = some (some b) → φ[j]? = some (some b) ∧ j ≠ n := fun j b e => by
    by_cases q : n = j
    · subst q
      rw [List.getElem?_set_self hnφ] at e
      cases e
    · rw [List.getElem?_set_ne q] at e
      exact ⟨e, fun z => q z.symm⟩
  have rs : ∀ s x, RS K W φ H s x → RS K (fun b => W b ∧ b ≠ a) (φ.set n none) H s x := fun s x r => by
    cases s with
    | v d => exact RV.stw st r
    | r m =>
      obtain ⟨y, g1, g2⟩ := r
      by_cases q : n = m
      · subst q
        exact ⟨none, List.getElem?_set_self hnφ, fun b z => nomatch z⟩
      · exact ⟨y, by rw [List.getElem?_set_ne q]; exact g1, g2⟩
  have roo : ∀ m o, ROO K W φ H m o → ROO K (fun b => W b ∧ b ≠ a) (φ.set n none) H m o := fun m o r => by
    cases m with
    | lst ys => cases o <;> first | exact Paired.mapP (show RSs K W φ H ys _ from r) fun _ _ q => rs _ _ q | exact False.elim r
    | dct kvs => cases o <;> first | exact Paired.mapP r fun _ _ q => ⟨q.1, rs _ _ q.2⟩ | exact False.elim r
    | ins c fs => cases o <;> first | exact ⟨r.1, Paired.mapP r.2 fun _ _ q => ⟨q.1, rs _ _ q.2⟩⟩ | exact False.elim r
  refine ⟨fun b => W b ∧ b ≠ a, φ.set n none, ⟨by simp [I.len], fun j l b g1 g2 => I.inj j l b (at_ j b g1).1 (at_ l b g2).1, fun j b g => ⟨I.own j b (at_ j b g).1, fun z => (at_ j b g).2 (I.inj j n a (by rw [← z]; exact (at_ j b g).1) e1)⟩,
    fun b z => I.trk b z.1, fun m o g => ?_, fun b z => ⟨I.w0 b z, fun q => ?_⟩, fun b z => I.wn b z.1, I.fr, fun j b g => ?_, fun j b l g => I.kn j b l (at_ j b g).1, fun j s g => ?_, by simp [I.slen], I.wb, I.pw⟩, st⟩
  · by_cases q : n = m
    · subst q
      rw [List.getElem?_set_self hn] at g
      cases g
    · rw [List.getElem?_set_ne q] at g
      obtain ⟨b, hb, g1, g2, g3⟩ := I.obj m o g
      exact ⟨b, hb, by rw [List.getElem?_set_ne q]; exact g1, g2, roo _ _ g3⟩
  · rw [q] at z
    obtain ⟨u, g⟩ := I.wb a z
    rw [h0] at g
    cases g
  · have hj : j < B.p0.length := (List.getElem?_eq_some_iff.mp g).1
    rw [List.getElem?_set_ne (by omega)]
    exact I.k0 j b g
  · by_cases q : i = j
    · subst q
      by_cases l : i < ρ.length
      · rw [List.getElem?_set_self l] at g
        have g' : S.v (.lst ds) = s := Option.some.inj (Option.some.inj g)
        subst g'
        obtain ⟨x, q1, y, q2, q3⟩ := I.slots i _ hi
        rw [e1] at q2
        have q4 := q3 a (Option.some.inj q2).symm
        subst q4
        refine ⟨_, q1, ?_⟩
        cases ho <;> first
          | exact e3.elim
          | exact .lst (.inl ⟨fun z => z.2 rfl, .inl e2⟩) ((frzS_ok hf e3).stw st)
      · rw [List.getElem?_eq_none (by simpa using l)] at g
        cases g
    · rw [List.getElem?_set_ne q] at g
      obtain ⟨x, q1, q2⟩ := I.slots j s g
      exact ⟨x, q1, rs _ _ q2⟩
theorem frzR_some {i n : Nat} {ρ ρ' : Rho} {M M' : Mh} (hi : ρ[i]? = some (some (.r n))) (h : frzR i ρ M = some (ρ', M')) : ∃ xs ds, M[n]? = some (some (.lst xs)) ∧ frzS xs = some ds ∧ ρ' = ρ.set i (some (.v (.lst ds))) ∧ M' = M.set n none := by
  unfold frzR at h
  simp only [hi] at h
  cases q : M[n]? with
  | none => simp only [q] at h; cases h
  | some o =>
    cases o with
    | none => simp only [q] at h; cases h
    | some m =>
      cases m with
      | lst xs =>
        cases g : frzS xs with
        | none => simp only [q, g] at h; cases h
        | some ds =>
          simp only [q, g] at h
          cases h
          exact ⟨xs, ds, rfl, g, rfl, rfl⟩
      | dct _ => simp only [q] at h; cases h
      | ins _ _ => simp only [q] at h; cases h
theorem mss_frz (i : Nat) {sts : List Stmt} (h : MSs X Wx k sts a) : MSs X Wx k sts (sFrz k i a) := fun B hB => pss_imp (h B hB) fun E σ H ⟨W, φ, ρ, M, I, q⟩ => by
  unfold sFrz at q
  cases hi : ρ[i]? with
  | none => simp only [hi] at q; exact q.elim
  | some o =>
    cases o with
    | none => simp only [hi] at q; exact q.elim
    | some s =>
      cases s with
      | v d => simp only [hi] at q; exact q.elim
      | r n =>
        simp only [hi] at q
        by_cases hk : k ≤ n
        · rw [if_pos hk] at q
          cases hf : frzR i ρ M with
          | none => simp only [hf] at q; exact q.elim
          | some p =>
            obtain ⟨ρ', M'⟩ := p
            simp only [hf] at q
            obtain ⟨xs, ds, hM, hd, rfl, rfl⟩ := frzR_some hi hf
            obtain ⟨W', φ', I', st⟩ := I.freeze (by omega) hi hM hd
            exact ⟨W', φ', _, _, I', CtS.base q st⟩
        · rw [if_neg hk] at q
          exact q.elim
end
end Md
end
section
namespace Md
open PySem PySem.Spec PyProof.Rows L2
section
variable {X : Cx} {Wx : WX} {k : Nat}
/-! ## targets -/
structure Sets (vs : List Nat) (σ σ' : Sg) : Prop where
  len : σ'.length = σ.length
  same : ∀ j, j ∉ vs → σ'[j]? = σ[j]?
theorem Sets.refl {vs : List Nat} {σ : Sg} : Sets vs σ σ := ⟨rfl, fun _ _ => rfl⟩
theorem Sets.trans {vs ws : List Nat} {σ σ1 σ2 : Sg} (a : Sets vs σ σ1) (b : Sets ws σ1 σ2) : Sets (vs ++ ws) σ σ2 :=
  ⟨b.len.trans a.len, fun j h => (b.same j fun z => h (List.mem_append_right _ z)).trans (a.same j fun z => h (List.mem_append_left _ z))⟩
theorem Sets.one {i : Nat} {σ : Sg} {x : Option V} : Sets [i] σ (σ.set i x) := ⟨by simp, fun j h => List.getElem?_set_ne (fun z => h (by simp [z]))⟩
abbrev Tg := S → Rho → Mh → Option Rho
abbrev Tgs := List S → Rho → Mh → Option Rho
def tlg {α β : Type} (K : PySem.W.Frag) (B : Bs) (vs : List Nat) (R : (Addr → Prop) → List (Option Addr) → Hp → α → β → Prop) (g : α → Rho → Mh → Option Rho) : β → Sg → Hp → (Sg → Hp → Prop) → Prop := fun x σ H Q =>
  ∃ W φ ρ M s, SI K B W φ ρ M σ H ∧ R W φ H s x ∧ ∃ ρ', g s ρ M = some ρ' ∧ ∀ σ', SI K B W φ ρ' M σ' H → Sets vs σ σ' → Q σ' H
def MG (X : Cx) (tg : Expr) (vs : List Nat) (g : Tg) : Prop := ∀ B, PG X tg (tlg X.K B vs (RS X.K) g)
def MGs (X : Cx) (tg : List Expr) (vs : List Nat) (g : Tgs) : Prop := ∀ B, PGs X tg (tlg X.K B vs (RSs X.K) g)
theorem pg_imp {e : Expr} {t t' : TG} (h : PG X e t) (i : ∀ v σ H Q, t' v σ H Q → t v σ H Q) : PG X e t' := ⟨fun pins s σ H v u Q I r q => h.run pins s σ H v u Q I r (i v σ H Q q)⟩
theorem pgs_imp {e : List Expr} {t t' : TGs} (h : PGs X e t) (i : ∀ v σ H Q, t' v σ H Q → t v σ H Q) : PGs X e t' := ⟨fun pins s σ H v u Q I r q => h.run pins s σ H v u Q I r (i v σ H Q q)⟩
def gN (i : Nat) : Tg := fun s ρ _ => some (ρ.set i (some s))
def gsN : Tgs := fun ss ρ _ => match ss with
  | [] => some ρ
  | _ => none
def gsC (g : Tg) (r : Tgs) : Tgs := fun ss ρ M => match ss with
  | s :: t => (match g s ρ M with
    | some ρ' => r t ρ' M
    | none => none)
  | _ => none
/-- a tuple or a list of n, frozen or own -/
def gT (n : Nat) (g : Tgs) : Tg := fun s ρ M => match s with
  | .v (.tup ds) => if ds.length = n then g (ds.map .v) ρ M else none
  | .v (.lst ds) => if ds.length = n then g (ds.map .v) ρ M else none
  | .r k => (match M[k]? with
    | some (some (.lst xs)) => if xs.length = n then g xs ρ M else none
    | _ => none)
  | _ => none
theorem mg_name (i : Nat) {x : Str} {pos : Pos} (hN : X.N.Nodup) (hi : X.N[i]? = some x := by rfl) (hx : Loc X.env.scope x := by first | exact .inl rfl | exact .inr rfl) (hf : X.fn x = true ∨ X.env.scope.names.lookup x = some .local := by first | exact .inl rfl | exact .inr rfl | assumption) : MG X (.Name x pos) [i] (gN i) := fun B =>
  pg_imp (pg_name hN hi hx hf) fun v σ H Q ⟨W, φ, ρ, M, s, I, r, ρ', e, q⟩ => by
    cases e
    exact q _ (I.set r) Sets.one
theorem mgs_nil : MGs X [] [] gsN := fun B => pgs_imp pgs_nil fun v σ H Q ⟨W, φ, ρ, M, ss, I, r, ρ', e, q⟩ => by
  cases ss with
  | nil =>
    cases r
    cases e
    exact ⟨rfl, q σ I Sets.refl⟩
  | cons s t => cases e
theorem mgs_cons {e : Expr} {es : List Expr} {vs ws : List Nat} {g : Tg} {r : Tgs} (h1 : MG X e vs g) (h2 : MGs X es ws r) (hs : (assignEach (e :: es) X.env).map (·.2) = assign e X.env :: (assignEach es X.env).map (·.2) := by rfl) : MGs X (e :: es) (vs ++ ws) (gsC g r) := fun B =>
  pgs_imp (pgs_cons (h1 B) (h2 B) hs) fun v σ H Q ⟨W, φ, ρ, M, ss, I, rr, ρ', e, q⟩ => by
    cases rr with
    | nil => cases e
    | @cons s x ss xs r1 r2 =>
      refine ⟨_, _, rfl, ?_⟩
      simp only [gsC] at e
      cases h : g s ρ M with
      | none =>
        simp only [h] at e
        cases e
      | some ρ1 =>
        simp only [h] at e
        exact ⟨W, φ, ρ, M, s, I, r1, ρ1, h, fun σ1 I1 s1 => ⟨W, φ, ρ1, M, ss, I1, r2, ρ', e, fun σ2 I2 s2 => q σ2 I2 (s1.trans s2)⟩⟩
theorem PG.or {e : Expr} {t t' : TG} (h : PG X e t) (h' : PG X e t') : PG X e (fun v σ H Q => t v σ H Q ∨ t' v σ H Q) :=
  ⟨fun pins s σ H v u Q I r q => q.elim (h.run pins s σ H v u Q I r) (h'.run pins s σ H v u Q I r)⟩
theorem mg_tup {es : List Expr} {k : Nat} {pos : Pos} {vs : List Nat} {g : Tgs} {n : Nat} (hc : X.calm = true) (h : MGs X es vs g)
    (hn : (assignEach es X.env).length = n := by rfl) (hst : (assignEach es X.env).findIdx? (·.1) = none := by rfl) : MG X (.Tuple es k pos) vs (gT n g) := fun B =>
  pg_imp (PG.or (pg_tup hc (h B) hn hst) (pg_lst hc (h B) hn hst)) fun v σ H Q ⟨W, φ, ρ, M, s, I, r, ρ', e, q⟩ => by
    cases s with
    | v d =>
      cases r with
      | tup h1 h2 =>
        simp only [gT] at e
        split at e
        · rename_i hl
          exact .inl ⟨_, _, rfl, h1.sq, by rw [← h2.length]; exact hl, W, φ, ρ, M, _, I, rs_of_rv h2, ρ', e, q⟩
        · cases e
      | lst h1 h2 =>
        simp only [gT] at e
        split at e
        · rename_i hl
          exact .inr ⟨_, _, rfl, h1.sq, by rw [← h2.length]; exact hl, W, φ, ρ, M, _, I, rs_of_rv h2, ρ', e, q⟩
        · cases e
      | _ => cases e
    | r m =>
      simp only [gT] at e
      cases hM : M[m]? with
      | none =>
        simp only [hM] at e
        cases e
      | some o =>
        cases o with
        | none =>
          simp only [hM] at e
          cases e
        | some o =>
          cases o with
          | lst xs =>
            simp only [hM] at e
            split at e
            · rename_i hl
              obtain ⟨c, ho, e1, e2, e3⟩ := I.obj m _ hM
              obtain ⟨y, e4, e5⟩ := r
              rw [e1] at e4
              have e6 := e5 c (Option.some.inj e4).symm
              subst e6
              cases ho <;> first
                | exact e3.elim
                | exact .inr ⟨_, _, rfl, .inl (.inl e2), by rw [← Paired.length e3]; exact hl, W, φ, ρ, M, _, I, e3, ρ', e, q⟩
            · cases e
          | dct _ =>
            simp only [hM] at e
            cases e
          | ins _ _ =>
            simp only [hM] at e
            cases e
/-- target = value -/
def sAsg (g : Tg) (e : Em S) : Sm := sB e fun s => fun ρ M => match g s ρ M with
  | some ρ' => .nx ρ' M
  | none => .bad
theorem ms_asg {tg e : Expr} {em : Em S} {pos : Pos} {vs : List Nat} {g : Tg} (he : ME X Wx e em) (hg : MG X tg vs g) (hs : swapsWithSole [tg] e pos.line X.env = pure false := by rfl) (hw : swappedStores [tg] e X.env = pure none := by rfl)
    (h1 : (assignEach [tg] X.env).map (·.2) = [assign tg X.env] := by rfl) : MS X Wx k (.Assign [tg] e pos) (sAsg g em) := fun B hB =>
  ps_imp (ps_asg (he B) (hg B) hs hw h1) fun E σ H ⟨W, φ, ρ, M, I, h⟩ => by
    refine tl_mono (ct_sB (R := RS X.K) I h) fun x H1 ⟨W1, φ1, M1, s, I1, st1, r1, h1⟩ => ?_
    cases q : g s ρ M1 with
    | none =>
      simp only [q] at h1
      exact h1.elim
    | some ρ' =>
      simp only [q] at h1
      exact ⟨W1, φ1, ρ, M1, s, I1, r1, ρ', q, fun σ' I' _ => h1 W1 φ1 σ' H1 I' Stw.refl⟩

/-! ## what is walked -/
/-- an iterator that yields the items -/
def ItOk (K : PySem.W.Frag) (items : List D) (J : It) (W : Addr → Prop) (H : Hp) : Prop := ∀ (i : Nat) B W1 φ1 ρ M σ H1, SI K B W1 φ1 ρ M σ H1 → Stw W H W1 H1 →
  (∀ d, items[i]? = some d → J.go i H1 ∧ ∀ x H2, J.yld i H1 x H2 → SI K B W1 φ1 ρ M σ H2 ∧ Stb W1 φ1 H1 W1 φ1 H2 ∧ RV K W1 H2 d x) ∧ (items.length ≤ i → J.stop i H1)
def tli (K : PySem.W.Frag) (B : Bs) (Wx : WX) (em : Em (List D)) : TI := fun σ H R => ∃ W φ ρ M, SI K B W φ ρ M σ H ∧ match em ρ M with
  | .ok items M' => ∀ W' φ' H' J, SI K B W' φ' ρ M' σ H' → Stb W φ H W' φ' H' → ItOk K items J W' H' → R J H'
  | .exn x M' => ∀ cls d W' φ' H', SI K B W' φ' ρ M' σ H' → XR K x cls d H' → Wx cls d σ H'
  | .bad => False
def MI (X : Cx) (Wx : WX) (tg iter : Expr) (em : Em (List D)) : Prop := ∀ B, PI X tg iter (tli X.K B Wx em)
theorem pi_imp {tg e : Expr} {t t' : TI} (h : PI X tg e t) (i : ∀ σ H Q, t' σ H Q → t σ H Q) : PI X tg e t' := ⟨fun pins s σ H Q I q => h.run pins s σ H Q I (i σ H Q q)⟩
theorem PI.or {tg e : Expr} {t t' : TI} (h : PI X tg e t) (h' : PI X tg e t') : PI X tg e (fun σ H R => t σ H R ∨ t' σ H R) :=
  ⟨fun pins s σ H R I q => q.elim (h.run pins s σ H R I) (h'.run pins s σ H R I)⟩

/-! ## for -/
def forL (g : Tg) (b : Sm) : List D → Sm
  | [], ρ, M => .nx ρ M
  | d :: ds, ρ, M => (match g (.v d) ρ M with
    | none => .bad
    | some ρ1 => (match b ρ1 M with
      | .nx ρ2 M2 => forL g b ds ρ2 M2
      | .ct ρ2 M2 => forL g b ds ρ2 M2
      | .bk ρ2 M2 => .nx ρ2 M2
      | r => r))
def sFor (it : Em (List D)) (g : Tg) (b : Sm) : Sm := sB it fun items => forL g b items
theorem ms_for {tg iter : Expr} {body : List Stmt} {em : Em (List D)} {vs : List Nat} {g : Tg} {b : Sm} {pos : Pos} (hp : PassesOwn (model X.prog X.w) X.A X.env X.xe) (hc : X.calm = true) (hi : MI X Wx tg iter em) (hg : MG X tg vs g) (hb : MSs X Wx k body b)
    (hs : ∀ x, foldedSetIterable iter X.env x = pure x := by intro _; rfl) : MS X Wx k (.For tg iter body [] pos) (sFor em g b) := fun B hB =>
  ps_imp (ps_for hp hc (hi B) (hg B) (hb B hB) hs) fun E σ H ⟨W, φ, ρ, M, I, h⟩ => by
    refine ⟨W, φ, ρ, M, I, ?_⟩
    unfold sFor sB at h
    cases q : em ρ M with
    | bad =>
      simp only [q] at h
      exact h
    | exn x M1 =>
      simp only [q] at h
      exact fun cls d W' φ' H' I' xr => h cls d W' φ' σ H' I' xr
    | ok items M1 =>
      simp only [q] at h
      intro W1 φ1 H1 J I1 st1 it
      refine ⟨fun i m σ' H' => m = items.length - i ∧ i ≤ items.length ∧ ∃ W' φ' ρ' M', SI X.K B W' φ' ρ' M' σ' H' ∧ Stw W1 H1 W' H' ∧ CtS X.K B Wx W' H' (forL g b (items.drop i) ρ' M') E,
        ⟨items.length, rfl, Nat.zero_le _, W1, φ1, ρ, M1, I1, Stw.refl, CtS.base h st1.tw⟩, ?_⟩
      rintro i m σ' H' ⟨rfl, hi, W', φ', ρ', M', I', st', h'⟩
      obtain ⟨ok1, ok2⟩ := it i B W' φ' ρ' M' σ' H' I' st'
      by_cases hlt : i < items.length
      · obtain ⟨go, yl⟩ := ok1 items[i] (List.getElem?_eq_getElem hlt)
        refine .inr ⟨go, fun σ2 H2 => ∃ W' φ' ρ' M', SI X.K B W' φ' ρ' M' σ2 H2 ∧ Stw W1 H1 W' H2 ∧ CtS X.K B Wx W' H2 (forL g b (items.drop (i + 1)) ρ' M') E, fun σ2 H2 n => ⟨items.length - (i + 1), by omega, rfl, hlt, n⟩, fun x H2 y => ?_⟩
        obtain ⟨I2, st2, r2⟩ := yl x H2 y
        rw [List.drop_eq_getElem_cons hlt] at h'
        unfold forL at h'
        cases e : g (.v items[i]) ρ' M' with
        | none =>
          simp only [e] at h'
          exact h'.elim
        | some ρ1 =>
          simp only [e] at h'
          refine ⟨W', φ', ρ', M', .v items[i], I2, r2, ρ1, e, fun σ3 I3 _ => ⟨W', φ', ρ1, M', I3, ?_⟩⟩
          have st3 := st'.trans st2.tw
          have h3 := CtS.base h' st2.tw
          generalize b ρ1 M' = res at h3 ⊢
          cases res with
          | nx ρ4 M4 => exact fun W4 φ4 σ4 H4 I4 st4 => ⟨W4, φ4, ρ4, M4, I4, st3.trans st4, CtS.base h3 st4⟩
          | ct ρ4 M4 => exact fun W4 φ4 σ4 H4 I4 st4 => ⟨W4, φ4, ρ4, M4, I4, st3.trans st4, CtS.base h3 st4⟩
          | bk ρ4 M4 => exact h3
          | rt s M4 => exact h3
          | exn x ρ4 M4 => exact h3
          | bad => exact h3
      · have e : i = items.length := by omega
        subst e
        rw [List.drop_length] at h'
        exact .inl ⟨ok2 (Nat.le_refl _), h' W' φ' σ' H' I' Stw.refl⟩

/-! ## while -/
/-- so many turns at most -/
def whL (t : Em Bool) (b : Sm) : Nat → Sm
  | 0, _, _ => .bad
  | n + 1, ρ, M => (match t ρ M with
    | .bad => .bad
    | .exn x M1 => .exn x ρ M1
    | .ok false M1 => .nx ρ M1
    | .ok true M1 => (match b ρ M1 with
      | .nx ρ2 M2 => whL t b n ρ2 M2
      | .ct ρ2 M2 => whL t b n ρ2 M2
      | .bk ρ2 M2 => .nx ρ2 M2
      | r => r))
/-- a while's mirror: r is what so many turns give -/
def sWh (n : Rho → Mh → Nat) (t : Em Bool) (b : Sm) : Sm := fun ρ M => whL t b (n ρ M) ρ M
theorem ms_wh {c : Expr} {body : List Stmt} {t : Em Bool} {b : Sm} {pos : Pos} (n : Rho → Mh → Nat) (hp : PassesOwn (model X.prog X.w) X.A X.env X.xe) (hc : MT X Wx c t) (hb : MSs X Wx k body b) : MS X Wx k (.While c body [] pos) (sWh n t b) := fun B hB =>
  ps_imp (ps_while hp (hc B) (hb B hB)) fun E σ H ⟨W, φ, ρ, M, I, h⟩ => by
    unfold sWh at h
    generalize n ρ M = k at h
    refine ⟨fun m σ' H' => ∃ W' φ' ρ' M', SI X.K B W' φ' ρ' M' σ' H' ∧ CtS X.K B Wx W' H' (whL t b m ρ' M') E, ⟨k, W, φ, ρ, M, I, h⟩, ?_⟩
    rintro m σ' H' ⟨W', φ', ρ', M', I', h'⟩
    cases m with
    | zero => exact h'.elim
    | succ m =>
      unfold whL at h'
      refine ⟨W', φ', ρ', M', I', ?_⟩
      cases q : t ρ' M' with
      | bad =>
        simp only [q] at h'
        exact h'
      | exn x M1 =>
        simp only [q] at h'
        exact fun cls d W' φ' H' I' xr => h' cls d W' φ' _ H' I' xr
      | ok c M1 =>
        intro W1 φ1 H1 c' I1 st1 ec
        cases ec
        cases c with
        | false =>
          simp only [q] at h'
          exact h' W1 φ1 σ' H1 I1 st1.tw
        | true =>
          simp only [q] at h'
          refine ⟨fun σ2 H2 => ∃ m', m' < m + 1 ∧ ∃ W' φ' ρ' M', SI X.K B W' φ' ρ' M' σ2 H2 ∧ CtS X.K B Wx W' H2 (whL t b m' ρ' M') E, fun σ2 H2 z => z, W1, φ1, ρ', M1, I1, ?_⟩
          have h3 := CtS.base h' st1.tw
          generalize b ρ' M1 = res at h3 ⊢
          cases res with
          | nx ρ4 M4 => exact fun W4 φ4 σ4 H4 I4 st4 => ⟨m, Nat.lt_succ_self _, W4, φ4, ρ4, M4, I4, CtS.base h3 st4⟩
          | ct ρ4 M4 => exact fun W4 φ4 σ4 H4 I4 st4 => ⟨m, Nat.lt_succ_self _, W4, φ4, ρ4, M4, I4, CtS.base h3 st4⟩
          | bk ρ4 M4 => exact h3
          | rt s M4 => exact h3
          | exn x ρ4 M4 => exact h3
          | bad => exact h3
end
end Md
end
section
namespace Md
open PySem PySem.Spec PyProof.Rows L2
section
variable {X : Cx} {Wx : WX} {k : Nat} {tg e : Expr} {em : Em S}
/-! ## iterators -/
theorem itok_one {K : PySem.W.Frag} {items : List D} {J : It} {W : Addr → Prop} {H : Hp} (h : ∀ W1 H1, Stw W H W1 H1 → (∀ (i : Nat) d, items[i]? = some d → J.go i H1 ∧ ∀ x H2, J.yld i H1 x H2 → H2 = H1 ∧ RV K W1 H1 d x) ∧ ∀ i, items.length ≤ i → J.stop i H1) : ItOk K items J W H :=
  fun i B W1 φ1 ρ M σ H1 I st => ⟨fun d e => ⟨((h W1 H1 st).1 i d e).1, fun x H2 y => by
    obtain ⟨e1, r⟩ := ((h W1 H1 st).1 i d e).2 x H2 y
    subst e1
    exact ⟨I, Stb.refl, r⟩⟩, (h W1 H1 st).2 i⟩
def eIt (em : Em S) : Em (List D) := eb em fun s => match s with
  | .v (.lst ds) => er ds
  | .v (.tup ds) => er ds
  | _ => eX
def CtI (K : PySem.W.Frag) (B : Bs) (Wx : WX) (σ : Sg) (ρ : Rho) (W : Addr → Prop) (φ : List (Option Addr)) (H : Hp) (res : REx (List D)) (T : It → Hp → Prop) : Prop := match res with
  | .ok items M' => ∀ W' φ' H' J, SI K B W' φ' ρ M' σ H' → Stb W φ H W' φ' H' → ItOk K items J W' H' → T J H'
  | .exn x M' => ∀ cls d W' φ' H', SI K B W' φ' ρ M' σ H' → XR K x cls d H' → Wx cls d σ H'
  | .bad => False
theorem tli_bind {α β : Type} {B : Bs} {R : (Addr → Prop) → List (Option Addr) → Hp → α → β → Prop} {ea : Em α} {kk : α → Em (List D)} {σ : Sg} {H : Hp} {T : It → Hp → Prop} (h : tli X.K B Wx (eb ea kk) σ H T) :
    tl X.K B Wx R ea σ H fun x H1 => ∃ W1 φ1 ρ M1 a, SI X.K B W1 φ1 ρ M1 σ H1 ∧ R W1 φ1 H1 a x ∧ CtI X.K B Wx σ ρ W1 φ1 H1 (kk a ρ M1) T := by
  obtain ⟨W, φ, ρ, M, I, h⟩ := h
  refine ⟨W, φ, ρ, M, I, ?_⟩
  unfold eb at h
  cases q : ea ρ M with
  | bad =>
    rw [q] at h
    exact h
  | exn x M1 =>
    rw [q] at h
    exact h
  | ok a M1 =>
    rw [q] at h
    change CtI X.K B Wx σ ρ W φ H (kk a ρ M1) T at h
    intro W1 φ1 H1 b I1 st1 r1
    refine ⟨W1, φ1, ρ, M1, a, I1, r1, ?_⟩
    generalize kk a ρ M1 = res at h ⊢
    cases res with
    | bad => exact h
    | exn x M2 => exact h
    | ok items M2 => exact fun W' φ' H' J I' st it => h W' φ' H' J I' (st1.trans st) it
theorem itok_list {K : PySem.W.Frag} {W : Addr → Prop} {H : Hp} {a : Addr} {ds : List D} {vs : List V} (h : SqLw K W H a vs) (r : RVs K W H ds vs) : ItOk K ds (Itl K a) W H := itok_one fun W1 H1 st => by
  have h1 := (h.stw st).sq
  have r1 := r.stw st
  refine ⟨fun i d e => ?_, fun i l => ⟨vs, h1, by rw [← r1.length]; exact l⟩⟩
  obtain ⟨x, e1, e2⟩ := r1.get e
  refine ⟨⟨vs, x, h1, e1⟩, fun y H2 z => ⟨z.1, ?_⟩⟩
  have e3 := z.2 vs h1
  rw [e1] at e3
  rw [← Option.some.inj e3]
  exact e2
theorem itok_tup {K : PySem.W.Frag} {W : Addr → Prop} {H : Hp} {a : Addr} {ds : List D} {vs : List V} (h : SqTw K W H a vs) (r : RVs K W H ds vs) : ItOk K ds (Itt K a) W H := itok_one fun W1 H1 st => by
  have h1 := (h.stw st).sq
  have r1 := r.stw st
  refine ⟨fun i d e => ?_, fun i l => ⟨vs, h1, by rw [← r1.length]; exact l⟩⟩
  obtain ⟨x, e1, e2⟩ := r1.get e
  refine ⟨⟨vs, x, h1, e1⟩, fun y H2 z => ⟨z.1, ?_⟩⟩
  have e3 := z.2 vs h1
  rw [e1] at e3
  rw [← Option.some.inj e3]
  exact e2
/-- a list or a tuple -/
theorem mi_seq (he : ME X Wx e em) : MI X Wx tg e (eIt em) := fun B => pi_imp (PI.or (pi_list (he B)) (pi_tup (he B))) fun σ H R h => by
  obtain ⟨W, φ, ρ, M, I, h⟩ := h
  unfold eIt eb at h
  cases q : em ρ M with
  | bad =>
    simp only [q] at h
  | exn x M1 =>
    simp only [q] at h
    refine .inl ⟨W, φ, ρ, M, I, ?_⟩
    rw [q]
    exact h
  | ok s M1 =>
    simp only [q] at h
    cases s with
    | r n => exact h.elim
    | v d =>
      cases d with
      | lst ds =>
        refine .inl ⟨W, φ, ρ, M, I, ?_⟩
        rw [q]
        intro W1 φ1 H1 x I1 st1 r1
        cases r1 with
        | lst h1 h2 => exact ⟨_, rfl, ⟨_, h1.sq⟩, h W1 φ1 H1 _ I1 st1 (itok_list h1 h2)⟩
      | tup ds =>
        refine .inr ⟨W, φ, ρ, M, I, ?_⟩
        rw [q]
        intro W1 φ1 H1 x I1 st1 r1
        cases r1 with
        | tup h1 h2 => exact ⟨_, rfl, ⟨_, h1.sq⟩, h W1 φ1 H1 _ I1 st1 (itok_tup h1 h2)⟩
      | _ => exact h.elim
/-- a text, sign by sign -/
def eItS (em : Em S) : Em (List D) := eb em fun s => match s with
  | .v (.str z) => er (z.cps.toList.map fun c => .str ⟨#[c]⟩)
  | _ => eX
theorem mi_str (he : ME X Wx e em) : MI X Wx tg e (eItS em) := fun B => pi_imp (pi_str (he B)) fun σ H R h => by
  refine tl_mono (tli_bind (R := RS X.K) h) fun x H1 ⟨W1, φ1, ρ, M1, s, I1, r1, q⟩ => ?_
  cases s with
  | r n => exact q.elim
  | v d =>
    cases d with
    | str z =>
      cases r1
      refine ⟨z, rfl, q W1 φ1 H1 _ I1 Stb.refl (itok_one fun W2 H2 st => ⟨fun i d e => ?_, fun i l => ?_⟩)⟩
      · rw [List.getElem?_map] at e
        cases g : z.cps.toList[i]? with
        | none =>
          rw [g] at e
          cases e
        | some c =>
          rw [g] at e
          cases e
          have g2 : z.cps[i]? = some c := by rw [← Array.getElem?_toList]; exact g
          refine ⟨(Array.getElem?_eq_some_iff.mp g2).1, fun y H3 w => ⟨w.1, ?_⟩⟩
          obtain ⟨c', e1, e2⟩ := w.2
          rw [g2] at e1
          rw [e2, ← Option.some.inj e1]
          exact .str _
      · exact (by simpa using l : z.cps.size ≤ i)
    | _ => exact q.elim
/-- range(n), range(a, b) -/
def rngD (lo : Int) (n : Nat) : List D := (List.range n).map fun (i : Nat) => .int (lo + i)
theorem itok_range {K : PySem.W.Frag} {W : Addr → Prop} {H : Hp} {lo : Int} {n : Nat} : ItOk K (rngD lo n) (Itr lo n) W H := itok_one fun W1 H1 st => by
  refine ⟨fun i d e => ?_, fun i l => (by simpa [rngD] using l : n ≤ i)⟩
  unfold rngD at e
  rw [List.getElem?_map] at e
  by_cases hi : i < n
  · rw [List.getElem?_range hi] at e
    cases e
    exact ⟨hi, fun x H2 y => ⟨y.1, by rw [y.2]; exact .int _⟩⟩
  · rw [List.getElem?_eq_none (by simpa using hi)] at e
    cases e
def rng1 : List S → Option (List D)
  | [.v (.int j)] => if -4294967296 ≤ j ∧ j < 4294967296 then some (rngD 0 j.toNat) else none
  | _ => none
def rng2 : List S → Option (List D)
  | [.v (.int i), .v (.int j)] => if -4294967296 ≤ i ∧ i < 4294967296 ∧ -4294967296 ≤ j ∧ j < 4294967296 then some (rngD i (j - i).toNat) else none
  | _ => none
def eItL (f : List S → Option (List D)) (a : Em (List S)) : Em (List D) := eb a fun ss => match f ss with
  | some items => er items
  | none => eX
theorem itL_of {B : Bs} {σ : Sg} {H : Hp} {T : It → Hp → Prop} {f : List S → Option (List D)} {ea : Em (List S)} {t : List V → Hp → Prop} (h : tli X.K B Wx (eItL f ea) σ H T)
    (i : ∀ W φ H ss xs items, f ss = some items → RSs X.K W φ H ss xs → (∀ J, ItOk X.K items J W H → T J H) → t xs H) : tl X.K B Wx (RSs X.K) ea σ H t := by
  refine tl_mono (tli_bind (R := RSs X.K) h) fun xs H1 ⟨W1, φ1, ρ, M1, ss, I1, r1, q⟩ => ?_
  cases e : f ss with
  | none =>
    simp only [e] at q
    exact q.elim
  | some items =>
    simp only [e] at q
    exact i W1 φ1 H1 ss xs items e r1 fun J it => q W1 φ1 H1 J I1 Stb.refl it
theorem mi_range1 {a : Expr} {ea : Em (List S)} {p pos : Pos} (hg : Gl X "range") (hm : X.mg "range" = none) (ha : MA X Wx [a] ea) (hs : starEach [a] X.env = [(false, eval a X.env)] := by rfl) : MI X Wx tg (.Call (.Name "range" p) [a] [] pos) (eItL rng1 ea) := fun B =>
  pi_imp (pi_range1 hg hm (ha B) hs) fun σ H R h => itL_of h fun W φ H ss xs items e r q => by
    unfold rng1 at e
    split at e
    · split at e
      · rename_i hb
        cases e
        cases r with
        | cons a1 b1 =>
          cases b1
          cases (show RV X.K W H _ _ from a1)
          exact ⟨_, rfl, by omega, by omega, q _ itok_range⟩
      · cases e
    · cases e
theorem mi_range2 {a b : Expr} {ea : Em (List S)} {p pos : Pos} (hg : Gl X "range") (hm : X.mg "range" = none) (ha : MA X Wx [a, b] ea) (hs : starEach [a, b] X.env = [(false, eval a X.env), (false, eval b X.env)] := by rfl) (hs2 : starEach [b] X.env = [(false, eval b X.env)] := by rfl) :
    MI X Wx tg (.Call (.Name "range" p) [a, b] [] pos) (eItL rng2 ea) := fun B =>
  pi_imp (pi_range2 hg hm (ha B) hs hs2) fun σ H R h => itL_of h fun W φ H ss xs items e r q => by
    unfold rng2 at e
    split at e
    · split at e
      · rename_i hb
        cases e
        cases r with
        | cons a1 b1 =>
          cases b1 with
          | cons a2 b2 =>
            cases b2
            cases (show RV X.K W H _ _ from a1)
            cases (show RV X.K W H _ _ from a2)
            exact ⟨_, _, rfl, ⟨by omega, by omega, by omega, by omega⟩, q _ itok_range⟩
      · cases e
    · cases e

/-! ## list comprehensions -/
theorem wipe_get {σ : Sg} : ∀ {vs : List Nat} {j : Nat}, j ∉ vs → (wipe σ vs)[j]? = σ[j]?
  | [], _, _ => rfl
  | v :: vs, j, h => by
    unfold wipe
    rw [List.getElem?_set_ne (fun z => h (by simp [z]))]
    exact wipe_get fun z => h (List.mem_cons_of_mem _ z)
theorem wipe_none {σ : Sg} : ∀ {vs : List Nat} {j : Nat}, j ∈ vs → j < σ.length → (wipe σ vs)[j]? = some none
  | v :: vs, j, h, l => by
    unfold wipe
    by_cases q : v = j
    · subst q
      rw [List.getElem?_set_self (by rw [wipe_length]; exact l)]
    · rw [List.getElem?_set_ne q]
      exact wipe_none ((List.mem_cons.mp h).resolve_left fun z => q z.symm) l
theorem Sets.wipe {ws vs : List Nat} {σ σ' : Sg} (s : Sets ws σ σ') (h : ∀ j ∈ ws, j ∈ vs) : L2.wipe σ' vs = L2.wipe σ vs := by
  refine List.ext_getElem? fun j => ?_
  by_cases q : j ∈ vs
  · by_cases l : j < σ.length
    · rw [wipe_none q l, wipe_none q (by rw [s.len]; exact l)]
    · rw [List.getElem?_eq_none (by rw [wipe_length, s.len]; omega), List.getElem?_eq_none (by rw [wipe_length]; omega)]
  · rw [wipe_get q, wipe_get q]
    exact s.same j fun z => q (h j z)
theorem wipe_wipe {σ : Sg} {vs : List Nat} : L2.wipe (L2.wipe σ vs) vs = L2.wipe σ vs := by
  refine List.ext_getElem? fun j => ?_
  by_cases q : j ∈ vs
  · by_cases l : j < σ.length
    · rw [wipe_none q l, wipe_none q (by rw [wipe_length]; exact l)]
    · rw [List.getElem?_eq_none (by rw [wipe_length, wipe_length]; omega), List.getElem?_eq_none (by rw [wipe_length]; omega)]
  · rw [wipe_get q]
/-- the block's slots: its own forgotten -/
theorem SI.wipe {K : PySem.W.Frag} {B : Bs} {W : Addr → Prop} {φ : List (Option Addr)} {ρ : Rho} {M : Mh} {σ : Sg} {H : Hp} (I : SI K B W φ ρ M σ H) (vs : List Nat) : SI K B W φ (killR vs ρ) M (L2.wipe σ vs) H := by
  refine I.other (by rw [killR_length, wipe_length]; exact I.slen) fun i s e => ?_
  have e1 := killR_some vs e
  obtain ⟨x, e2, r⟩ := I.slots i s e1
  refine ⟨x, ?_, r⟩
  rw [wipe_get fun z => ?_]
  · exact e2
  · have key : ∀ (vs : List Nat) (ρ : Rho), i ∈ vs → i < ρ.length → (killR vs ρ)[i]? = some none := by
      intro vs
      induction vs with
      | nil => intro ρ h _; cases h
      | cons v vs ih =>
        intro ρ h l
        unfold killR
        by_cases q : v = i
        · subst q
          rw [List.getElem?_set_self (by rw [killR_length]; exact l)]
        · rw [List.getElem?_set_ne q]
          exact ih ρ ((List.mem_cons.mp h).resolve_left fun z => q z.symm) l
    rw [key vs ρ z (List.getElem?_eq_some_iff.mp e1).1] at e
    cases e
def lcL (ρ : Rho) (g : Tg) (t : Em Bool) (e : Em S) : List D → Mh → REx (List D)
  | [], M => .ok [] M
  | d :: ds, M => (match g (.v d) ρ M with
    | none => .bad
    | some ρ1 => (match t ρ1 M with
      | .ok false M1 => lcL ρ g t e ds M1
      | .ok true M1 => (match e ρ1 M1 with
        | .ok (.v y) M2 => (match lcL ρ g t e ds M2 with
          | .ok ys M3 => .ok (y :: ys) M3
          | .exn x M3 => .exn x M3
          | .bad => .bad)
        | _ => .bad)
      | _ => .bad))
/-- [e for .. in it if t]; vs: the comprehension's own slots -/
def eLc (it : Em (List D)) (vs : List Nat) (g : Tg) (t : Em Bool) (e : Em S) : Em (List D) := fun ρ M => match it ρ M with
  | .ok items M1 => if items.length ≤ 16777216 then lcL (killR vs ρ) g t e items M1 else .bad
  | .exn x M1 => .exn x M1
  | .bad => .bad
def eYes : Em Bool := er true
abbrev W0x : WX := fun _ _ _ _ => False
/-- the tests of a clause -/
def MTs (X : Cx) (Wx : WX) (ifs : List Expr) (t : Em Bool) : Prop := ∀ B, PTs X ifs (tl X.K B Wx RB t)
theorem pts_imp {ifs : List Expr} {t t' : TT} (h : PTs X ifs t) (i : ∀ σ H Q, t' σ H Q → t σ H Q) : PTs X ifs t' := ⟨fun pins s σ H Q I q => h.run pins s σ H Q I (i σ H Q q)⟩
theorem mts_nil : MTs X Wx [] eYes := fun B => pts_imp pts_nil fun σ H Q ⟨W, φ, ρ, M, I, h⟩ => ct_ok (M := M) I h rfl
theorem mts_one {c : Expr} {t : Em Bool} (h : MT X Wx c t) : MTs X Wx [c] t := fun B => pts_one (h B)
/-- without the list that is being made -/
def del (H : Hp) (p : Addr) : Hp := fun a => if a = p then none else H a
theorem upd_del {H : Hp} {p : Addr} {o : HO} (h : H p = some o) : upd (del H p) p o = H := by
  funext a
  unfold upd del
  by_cases q : a = p
  · rw [if_pos q, q, h]
  · rw [if_neg q, if_neg q]
theorem SI.stbPend {K : PySem.W.Frag} {B : Bs} {W : Addr → Prop} {φ : List (Option Addr)} {ρ : Rho} {M : Mh} {σ : Sg} {H : Hp} (I : SI K B W φ ρ M σ H) {p : Addr} {o : HO} (hp : H p = none) : Stb W φ H (fun a => W a ∨ a = p) φ (upd H p o) :=
  ⟨⟨fun a z => z.elim .inl fun z => .inr (by rw [z]; exact hp), fun a u _ e => by rw [upd_ne (ne_of_none e hp)]; exact e⟩, fun _ _ e => e, fun a u _ e => by rw [upd_ne (ne_of_none e hp)]; exact e, fun _ _ e => .inl e, fun a u e => ⟨u, by rw [upd_ne (ne_of_none e hp)]; exact e⟩, fun _ z => .inl z⟩
theorem SI.pend {K : PySem.W.Frag} {B : Bs} {W : Addr → Prop} {φ : List (Option Addr)} {ρ : Rho} {M : Mh} {σ : Sg} {H : Hp} (I : SI K B W φ ρ M σ H) {p : Addr} {o : HO} (hp : H p = none) : SI K B (fun a => W a ∨ a = p) φ ρ M σ (upd H p o) := by
  have st : Stb W φ H (fun a => W a ∨ a = p) φ (upd H p o) := I.stbPend hp
  have hb := I.free hp
  refine ⟨I.len, I.inj, fun i a e => .inl (I.own i a e), fun a z => ?_, fun n m e => ?_, fun a z => .inl (I.w0 a z), fun a z => ?_, fun a u e na => ?_, I.k0, I.kn, fun i s e => ?_, I.slen, I.wb, I.pw⟩
  · by_cases q : a = p
    · rw [q]
      exact ⟨o, upd_same⟩
    · obtain ⟨u, e⟩ := I.trk a (z.resolve_right q)
      exact ⟨u, by rw [upd_ne q]; exact e⟩
  · obtain ⟨a, ho, e1, e2, e3⟩ := I.obj n m e
    exact ⟨a, ho, e1, by rw [upd_ne (ne_of_none e2 hp)]; exact e2, e3.stb st⟩
  · rcases z with z | z
    · exact I.wn a z
    · exact .inr (by rw [z]; exact hb)
  · have e1 := I.fr a u e na
    rw [upd_ne (ne_of_none e1 hp)]
    exact e1
  · obtain ⟨x, e1, e2⟩ := I.slots i s e
    exact ⟨x, e1, e2.stb st⟩
/-- the pending list is written -/
theorem SI.pendWr {K : PySem.W.Frag} {B : Bs} {W : Addr → Prop} {φ : List (Option Addr)} {ρ : Rho} {M : Mh} {σ : Sg} {H : Hp} (I : SI K B W φ ρ M σ H) {p : Addr} {o : HO} (hw : W p) (hn : ∀ (i : Nat), φ[i]? ≠ some (some p)) (h0 : B.H0 p = none) : SI K B W φ ρ M σ (upd H p o) ∧ Stw W H W (upd H p o) := by
  have st : Stw W H W (upd H p o) := ⟨fun a z => .inl z, fun a u n e => by rw [upd_ne (fun z => n (by rw [z]; exact hw))]; exact e⟩
  have rs : ∀ s x, RS K W φ H s x → RS K W φ (upd H p o) s x := fun s x r => by
    cases s with
    | v d => exact RV.stw st r
    | r m => exact r
  have roo : ∀ m o', ROO K W φ H m o' → ROO K W φ (upd H p o) m o' := fun m o' r => by
    cases m with
    | lst ys => cases o' <;> first | exact Paired.mapP (show RSs K W φ H ys _ from r) fun _ _ q => rs _ _ q | exact False.elim r
    | dct kvs => cases o' <;> first | exact Paired.mapP r fun _ _ q => ⟨q.1, rs _ _ q.2⟩ | exact False.elim r
    | ins c fs => cases o' <;> first | exact ⟨r.1, Paired.mapP r.2 fun _ _ q => ⟨q.1, rs _ _ q.2⟩⟩ | exact False.elim r
  refine ⟨⟨I.len, I.inj, I.own, fun a z => ?_, fun n m e => ?_, I.w0, I.wn, fun a u e na => ?_, I.k0, I.kn, fun i s e => ?_, I.slen, I.wb, I.pw⟩, st⟩
  · by_cases q : a = p
    · rw [q]
      exact ⟨o, upd_same⟩
    · obtain ⟨u, e⟩ := I.trk a z
      exact ⟨u, by rw [upd_ne q]; exact e⟩
  · obtain ⟨a, ho, e1, e2, e3⟩ := I.obj n m e
    exact ⟨a, ho, e1, by rw [upd_ne (fun z => hn n (by rw [← z]; exact e1))]; exact e2, roo _ _ e3⟩
  · have e1 := I.fr a u e na
    rw [upd_ne (fun z => by rw [z, h0] at e; cases e)]
    exact e1
  · obtain ⟨x, e1, e2⟩ := I.slots i s e
    exact ⟨x, e1, rs _ _ e2⟩
/-- the pending list is taken out -/
theorem SI.unpend {K : PySem.W.Frag} {B : Bs} {W : Addr → Prop} {φ : List (Option Addr)} {ρ : Rho} {M : Mh} {σ : Sg} {H : Hp} (I : SI K B W φ ρ M σ H) {p : Addr} (hw : W p) (hn : ∀ (i : Nat), φ[i]? ≠ some (some p)) (h0 : B.H0 p = none) :
    SI K B (fun a => W a ∧ a ≠ p) φ ρ M σ (del H p) ∧ Stw W H (fun a => W a ∧ a ≠ p) (del H p) := by
  have st : Stw W H (fun a => W a ∧ a ≠ p) (del H p) := ⟨fun a z => .inl z.1, fun a u n e => by
    unfold del
    rw [if_neg (fun z => n (by rw [z]; exact hw))]
    exact e⟩
  have rs : ∀ s x, RS K W φ H s x → RS K (fun a => W a ∧ a ≠ p) φ (del H p) s x := fun s x r => by
    cases s with
    | v d => exact RV.stw st r
    | r m => exact r
  have roo : ∀ m o', ROO K W φ H m o' → ROO K (fun a => W a ∧ a ≠ p) φ (del H p) m o' := fun m o' r => by
    cases m with
    | lst ys => cases o' <;> first | exact Paired.mapP (show RSs K W φ H ys _ from r) fun _ _ q => rs _ _ q | exact False.elim r
    | dct kvs => cases o' <;> first | exact Paired.mapP r fun _ _ q => ⟨q.1, rs _ _ q.2⟩ | exact False.elim r
    | ins c fs => cases o' <;> first | exact ⟨r.1, Paired.mapP r.2 fun _ _ q => ⟨q.1, rs _ _ q.2⟩⟩ | exact False.elim r
  have dn : ∀ {a : Addr} {u : HO}, a ≠ p → H a = some u → del H p a = some u := fun {a u} n e => by
    unfold del
    rw [if_neg n]
    exact e
  refine ⟨⟨I.len, I.inj, fun i a e => ⟨I.own i a e, fun z => hn i (by rw [← z]; exact e)⟩, fun a z => ?_, fun n m e => ?_, fun a z => ⟨I.w0 a z, fun q => ?_⟩, fun a z => I.wn a z.1, fun a u e na => ?_, I.k0, I.kn, fun i s e => ?_, I.slen, I.wb, I.pw⟩, st⟩
  · obtain ⟨u, e⟩ := I.trk a z.1
    exact ⟨u, dn z.2 e⟩
  · obtain ⟨a, ho, e1, e2, e3⟩ := I.obj n m e
    exact ⟨a, ho, e1, dn (fun z => hn n (by rw [← z]; exact e1)) e2, roo _ _ e3⟩
  · obtain ⟨u, e⟩ := I.wb a z
    rw [q, h0] at e
    cases e
  · exact dn (fun z => by rw [z, h0] at e; cases e) (I.fr a u e na)
  · obtain ⟨x, e1, e2⟩ := I.slots i s e
    exact ⟨x, e1, rs _ _ e2⟩
end
end Md
end
section
namespace Md
open PySem PySem.Spec PyProof.Rows L2
section
variable {X : Cx} {Wx : WX} {k : Nat}
/-- what a comprehension has made so far, ahead of the rest -/
def preL (acc : List D) : REx (List D) → REx (List D)
  | .ok ys M => .ok (acc ++ ys) M
  | .exn x M => .exn x M
  | .bad => .bad
structure LcI (K : PySem.W.Frag) (B : Bs) (W1 : Addr → Prop) (φ1 : List (Option Addr)) (H1 : Hp) (p : Addr) (ρ : Rho) (σ : Sg) (acc : List D) (n : Nat) (W' : Addr → Prop) (φ' : List (Option Addr)) (M' : Mh) (H' : Hp) : Prop where
  I : SI K B W' φ' ρ M' σ H'
  wp : W' p
  np : ∀ (j : Nat), φ'[j]? ≠ some (some p)
  st : Stb W1 φ1 H1 W' φ' H'
  vs : ∃ vs, H' p = some (.lst vs) ∧ RVs K W' H' acc vs
  len : acc.length ≤ n
theorem LcI.go {K : PySem.W.Frag} {B : Bs} {W1 : Addr → Prop} {φ1 : List (Option Addr)} {H1 : Hp} {p : Addr} {ρ : Rho} {σ : Sg} {acc : List D} {n : Nat} {W' : Addr → Prop} {φ' : List (Option Addr)} {M' : Mh} {H' : Hp} (L : LcI K B W1 φ1 H1 p ρ σ acc n W' φ' M' H')
    {W2 : Addr → Prop} {φ2 : List (Option Addr)} {M2 : Mh} {H2 : Hp} {ρ2 : Rho} {σ2 : Sg} (I2 : SI K B W2 φ2 ρ2 M2 σ2 H2) (st : Stb W' φ' H' W2 φ2 H2) : LcI K B W1 φ1 H1 p ρ2 σ2 acc n W2 φ2 M2 H2 := by
  obtain ⟨vs, e1, r1⟩ := L.vs
  have e2 : H2 p = some (.lst vs) := st.f p _ L.np e1
  have np : ∀ (j : Nat), φ2[j]? ≠ some (some p) := fun j e => by
    rcases st.n j p e with q | q
    · exact L.np j q
    · rw [e1] at q
      cases q
  exact ⟨I2, st.m p L.wp, np, L.st.trans st, ⟨vs, e2, r1.stb st⟩, L.len⟩
theorem lc_of {K : PySem.W.Frag} {B : Bs} {vs ws : List Nat} {it : Em (List D)} {g : Tg} {t : Em Bool} {e : Em S} {σ : Sg} {H : Hp} {Q : VK} (hw : ∀ j ∈ ws, j ∈ vs) (h : tlF K B Wx (eLc it vs g t e) σ H Q) :
    tLc (tli K B Wx it) (tlg K B ws (RS K) g) (tl K B W0x RB t) (tl K B W0x (RS K) e) vs σ H Q := by
  obtain ⟨W, φ, ρ, M, I, h⟩ := h
  refine ⟨W, φ, ρ, M, I, ?_⟩
  unfold eLc at h
  cases q : it ρ M with
  | bad =>
    simp only [q] at h
    exact h
  | exn x M1 =>
    simp only [q] at h
    exact h
  | ok items M1 =>
    simp only [q] at h
    intro W1 φ1 H1 J I1 st1 iok p hp
    by_cases hz : items.length ≤ 16777216
    case neg =>
      rw [if_neg hz] at h
      exact h.elim
    rw [if_pos hz] at h
    have hb := I1.free hp
    have np1 : ∀ (j : Nat), φ1[j]? ≠ some (some p) := fun j z => by
      obtain ⟨o, e⟩ := I1.trk p (I1.own j p z)
      rw [hp] at e
      cases e
    refine ⟨fun i m H' => m = items.length - i ∧ i ≤ items.length ∧ ∃ W' φ' M' acc, LcI K B W1 φ1 H1 p (killR vs ρ) (L2.wipe σ vs) acc i W' φ' M' H' ∧ CtF K B Wx σ ρ W φ H (preL acc (lcL (killR vs ρ) g t e (items.drop i) M')) Q,
      ⟨items.length, rfl, Nat.zero_le _, fun a => W1 a ∨ a = p, φ1, M1, [], ⟨(I1.wipe vs).pend hp, .inr rfl, np1, I1.stbPend hp, ⟨[], upd_same, .nil⟩, Nat.le_refl _⟩, ?_⟩, ?_⟩
    · rw [List.drop_zero]
      generalize lcL (killR vs ρ) g t e items M1 = res at h ⊢
      cases res with
      | ok ys M => exact h
      | exn x M => exact h
      | bad => exact h
    rintro i m H' ⟨rfl, hile, W', φ', M', acc, L, h'⟩
    obtain ⟨ok1, ok2⟩ := iok i B W' φ' _ M' _ H' L.I L.st.tw
    by_cases hlt : i < items.length
    · obtain ⟨go, yl⟩ := ok1 items[i] (List.getElem?_eq_getElem hlt)
      refine .inr ⟨go, fun H2 => ∃ W' φ' M' acc, LcI K B W1 φ1 H1 p (killR vs ρ) (L2.wipe σ vs) acc (i + 1) W' φ' M' H2 ∧ CtF K B Wx σ ρ W φ H (preL acc (lcL (killR vs ρ) g t e (items.drop (i + 1)) M')) Q,
        fun H2 n => ⟨items.length - (i + 1), by omega, rfl, hlt, n⟩, fun x H2 y => ?_⟩
      obtain ⟨I2, st2, r2⟩ := yl x H2 y
      have L3 := L.go I2 st2
      rw [List.drop_eq_getElem_cons hlt] at h'
      unfold lcL at h'
      cases eg : g (.v items[i]) (killR vs ρ) M' with
      | none =>
        simp only [eg] at h'
        exact h'.elim
      | some ρ1 =>
        simp only [eg] at h'
        refine ⟨W', φ', killR vs ρ, M', .v items[i], I2, r2, ρ1, eg, fun σ3 I3 s3 => ⟨?_, ?_⟩⟩
        · rw [s3.wipe hw, wipe_wipe]
        have w3 : L2.wipe σ3 vs = L2.wipe σ vs := by rw [s3.wipe hw, wipe_wipe]
        -- back to the block's start
        have back : ∀ {W4 φ4 M4 H4 acc n}, LcI K B W1 φ1 H1 p ρ1 σ3 acc n W4 φ4 M4 H4 → LcI K B W1 φ1 H1 p (killR vs ρ) (L2.wipe σ vs) acc n W4 φ4 M4 H4 := fun {W4 φ4 M4 H4 acc n} L4 => by
          have I5 := L4.I
          refine ⟨I5.other (by rw [killR_length, wipe_length]; exact I1.slen) fun j s ej => ?_, L4.wp, L4.np, L4.st, L4.vs, L4.len⟩
          obtain ⟨x, e1, r⟩ := (I1.wipe vs).slots j s ej
          exact ⟨x, e1, r.stb L4.st⟩
        refine ⟨W', φ', ρ1, M', I3, ?_⟩
        cases et : t ρ1 M' with
        | bad =>
          simp only [et] at h'
          exact h'.elim
        | exn x M4 =>
          simp only [et] at h'
          exact h'.elim
        | ok b M4 =>
          intro W4 φ4 H4 b' I4 st4 eb'
          have eb2 : b' = b := eb'
          subst eb2
          have L4 := (L3.go I3 Stb.refl).go I4 st4
          cases b' with
          | false =>
            simp only [et] at h'
            rw [if_neg Bool.false_ne_true]
            have L5 := back L4
            exact ⟨W4, φ4, M4, acc, ⟨L5.I, L5.wp, L5.np, L5.st, L5.vs, Nat.le_succ_of_le L5.len⟩, h'⟩
          | true =>
            simp only [et] at h'
            rw [if_pos rfl]
            refine ⟨W4, φ4, ρ1, M4, I4, ?_⟩
            cases ee : e ρ1 M4 with
            | bad =>
              simp only [ee] at h'
              exact h'.elim
            | exn x M5 =>
              simp only [ee] at h'
              exact h'.elim
            | ok s M5 =>
              cases s with
              | r n =>
                simp only [ee] at h'
                exact h'.elim
              | v y =>
                simp only [ee] at h'
                intro W5 φ5 H5 yv I5 st5 r5
                have L6 := back (L4.go I5 st5)
                obtain ⟨accv, ea, ra⟩ := L6.vs
                have la := ra.length
                have ll := L6.len
                refine ⟨accv, ea, by rw [sizeLine_eq]; omega, ?_⟩
                obtain ⟨I7, st7⟩ := L6.I.pendWr (o := .lst (accv ++ [yv])) L6.wp L6.np hb
                refine ⟨W5, φ5, M5, acc ++ [y], ⟨I7, L6.wp, L6.np, ⟨L6.st.tw.trans st7, L6.st.p, fun a o n ea => ?_, L6.st.n, fun a o ea => ?_, L6.st.m⟩, ⟨_, upd_same, RVs.append (ra.stw st7) (.cons (RV.stw st7 r5) .nil)⟩, by rw [List.length_append, List.length_singleton]; omega⟩, ?_⟩
                · rw [upd_ne (fun z => by rw [z, hp] at ea; cases ea)]
                  exact L6.st.f a o n ea
                · by_cases z : a = p
                  · rw [z, hp] at ea
                    cases ea
                  · obtain ⟨o', e'⟩ := L6.st.d a o ea
                    exact ⟨o', by rw [upd_ne z]; exact e'⟩
                · generalize lcL (killR vs ρ) g t e (items.drop (i + 1)) M5 = res at h' ⊢
                  cases res with
                  | ok ys M => simpa [preL] using h'
                  | exn x M => exact h'
                  | bad => exact h'
    · have ei : i = items.length := by omega
      subst ei
      rw [List.drop_length] at h'
      obtain ⟨accv, ea, ra⟩ := L.vs
      obtain ⟨I7, st7⟩ := L.I.unpend L.wp L.np hb
      have st8 : Stb W1 φ1 H1 (fun a => W' a ∧ a ≠ p) φ' (del H' p) := by
        refine ⟨L.st.tw.trans st7, L.st.p, fun a o n ea => ?_, L.st.n, fun a o ea => ?_, fun a z => ⟨L.st.m a z, fun q => ?_⟩⟩
        · unfold del
          rw [if_neg (fun z => by rw [z, hp] at ea; cases ea)]
          exact L.st.f a o n ea
        · obtain ⟨o', e'⟩ := L.st.d a o ea
          exact ⟨o', by unfold del; rw [if_neg (fun z => by rw [z, hp] at ea; cases ea)]; exact e'⟩
        · obtain ⟨o, g⟩ := I1.trk a z
          rw [q, hp] at g
          cases g
      refine .inl ⟨ok2 (Nat.le_refl _), ?_⟩
      have I9 : SI K B (fun a => W' a ∧ a ≠ p) φ' ρ M' σ (del H' p) := I7.other I1.slen fun j s ej => by
        obtain ⟨x, e1, r⟩ := I1.slots j s ej
        exact ⟨x, e1, r.stb st8⟩
      have q9 := h' _ _ (del H' p) p accv I9 (st1.trans st8) (by unfold del; rw [if_pos rfl]) (by rw [List.append_nil]; exact ra.stw st7)
      rw [upd_del ea] at q9
      exact q9
theorem mf_lc {elt tg iter : Expr} {ifs : List Expr} {scope : Scope} {own : List (Str × Nat)} {pos : Pos} {it : Em (List D)} {ws : List Nat} {g : Tg} {t : Em Bool} {e : Em S} (hc : X.calm = true) (hN : X.N.Nodup) (hi : MI X Wx tg iter it) (ok : BlkOk X.N X.env.scope scope own)
    (hw : ∀ j ∈ ws, j ∈ own.map (·.2))
    (hg : ∀ (s : Shared) (H : Hp) (C : Addr) (cl : List (Str × Addr)) (fp : List Addr), MG (X.blk s H scope (compEnvC scope cl C X.env) fp) tg ws g) (ht : ∀ (s : Shared) (H : Hp) (C : Addr) (cl : List (Str × Addr)) (fp : List Addr), MTs (X.blk s H scope (compEnvC scope cl C X.env) fp) W0x ifs t)
    (he : ∀ (s : Shared) (H : Hp) (C : Addr) (cl : List (Str × Addr)) (fp : List Addr), ME (X.blk s H scope (compEnvC scope cl C X.env) fp) W0x elt e) (hs : ∀ x, foldedSetIterable iter X.env x = pure x := by intro _; rfl) :
    MF X Wx (.ListComp elt [⟨tg, iter, ifs, 0⟩] scope pos) (eLc it (own.map (·.2)) g t e) := fun B =>
  pe_imp (pe_lc hc hN (hi B) ok (fun s H C cl fp => hg s H C cl fp B) (fun s H C cl fp => ht s H C cl fp B) (fun s H C cl fp => he s H C cl fp B) hs) fun σ H Q h => lc_of hw h
/-- name = [..], the name a local -/
def sSetF (i : Nat) (em : Em (List D)) : Sm := sSet i (eFz em)
def sSetO (i : Nat) (em : Em (List D)) : Sm := sSet i (eOwn em)
theorem ms_setLc {own' : Bool} {i : Nat} {y : Str} {py : Pos} {elt tg iter : Expr} {ifs : List Expr} {scope : Scope} {own : List (Str × Nat)} {pos spos : Pos} {it : Em (List D)} {ws : List Nat} {g : Tg} {t : Em Bool} {e : Em S} (hc : X.calm = true) (hN : X.N.Nodup) (hi : MI X Wx tg iter it) (ok : BlkOk X.N X.env.scope scope own)
    (hw : ∀ j ∈ ws, j ∈ own.map (·.2))
    (hg : ∀ (s : Shared) (H : Hp) (C : Addr) (cl : List (Str × Addr)) (fp : List Addr), MG (X.blk s H scope (compEnvC scope cl C X.env) fp) tg ws g) (ht : ∀ (s : Shared) (H : Hp) (C : Addr) (cl : List (Str × Addr)) (fp : List Addr), MTs (X.blk s H scope (compEnvC scope cl C X.env) fp) W0x ifs t)
    (he : ∀ (s : Shared) (H : Hp) (C : Addr) (cl : List (Str × Addr)) (fp : List Addr), ME (X.blk s H scope (compEnvC scope cl C X.env) fp) W0x elt e)
    (hsw : swapsWith (.ListComp elt [⟨tg, iter, ifs, 0⟩] scope pos) (some (.Name y py)) spos.line X.env = pure true) (hy : X.N[i]? = some y := by rfl) (hyl : X.env.scope.names.lookup y = some .local := by rfl)
    (hs : ∀ x, foldedSetIterable iter X.env x = pure x := by intro _; rfl) :
    MS X Wx k (.Assign [.Name y py] (.ListComp elt [⟨tg, iter, ifs, 0⟩] scope pos) spos) (sSet i (if own' = true then eOwn (eLc it (own.map (·.2)) g t e) else eFz (eLc it (own.map (·.2)) g t e))) := fun B hB =>
  ps_imp (ps_setLc hc hN hy hyl hsw (hi B) ok (fun s H C cl fp => hg s H C cl fp B) (fun s H C cl fp => ht s H C cl fp B) (fun s H C cl fp => he s H C cl fp B) hs) fun E σ H ⟨W, φ, ρ, M, I, h⟩ => by
    refine lc_of (Wx := Wx) (e := e) (t := t) (g := g) hw ⟨W, φ, ρ, M, I, ?_⟩
    unfold sSet sB at h
    cases own' with
    | false =>
      rw [if_neg Bool.false_ne_true] at h
      unfold eFz eb at h
      generalize eLc it (own.map (·.2)) g t e ρ M = res at h ⊢
      cases res with
      | bad => exact h
      | exn x M => exact fun cls d W' φ' H' I' xr => h cls d W' φ' σ H' I' xr
      | ok ds M => exact fun W' φ' H' p vs I' st hp r => h W' φ' _ _ ((I'.new hp).set (I'.newLst hp r)) (st.trans (I'.stbNew hp)).tw
    | true =>
      rw [if_pos rfl] at h
      unfold eOwn eb at h
      generalize eLc it (own.map (·.2)) g t e ρ M = res at h ⊢
      cases res with
      | bad => exact h
      | exn x M => exact fun cls d W' φ' H' I' xr => h cls d W' φ' σ H' I' xr
      | ok ds M =>
        intro W' φ' H' p vs I' st hp r
        refine h _ _ _ _ ((I'.newOwn (ho := .lst vs) (o := .lst (ds.map .v)) hp (I'.free hp) (rs_of_rv r)).set (x := .ref p) ⟨some p, ?_, fun a z => by rw [Option.some.inj z]⟩) (st.trans (I'.stbOwn hp)).tw
        rw [← I'.len]
        simp
end
end Md
end
section
namespace Md
open PySem PySem.Spec PyProof.Rows L2

/-! ## flat objects -/
def allV : List S → Bool
  | [] => true
  | .v _ :: r => allV r
  | .r _ :: _ => false
def flatO : MO → Bool
  | .lst xs => allV xs
  | .dct kvs => allV (kvs.map (·.2))
  | .ins _ _ => false
def flatM : Mh → Bool
  | [] => true
  | none :: r => flatM r
  | some o :: r => flatO o && flatM r
section
variable {K : PySem.W.Frag} {W W' : Addr → Prop} {φ φ' : List (Option Addr)} {H H' : Hp}
theorem allV_rs (hw : ∀ a, W' a → W a) : ∀ {ss : List S} {vs : List V}, allV ss = true → RSs K W φ H ss vs → RSs K W' φ' H ss vs
  | [], _, _, .nil => .nil
  | .v d :: ss, _, e, .cons a r => .cons (RV.lessW hw a) (allV_rs hw (show allV ss = true from e) r)
  | .r n :: ss, _, e, .cons a r => by cases e
theorem allV_kv {κ : Type} {c : D → κ → Prop} (hw : ∀ a, W' a → W a) : ∀ {ss : List (D × S)} {vs : List (κ × V)}, allV (ss.map (·.2)) = true → Paired (fun (p : D × S) (q : κ × V) => c p.1 q.1 ∧ RS K W φ H p.2 q.2) ss vs → Paired (fun (p : D × S) (q : κ × V) => c p.1 q.1 ∧ RS K W' φ' H p.2 q.2) ss vs
  | [], _, _, .nil => .nil
  | (k, .v d) :: ss, _, e, .cons a r => .cons ⟨a.1, RV.lessW hw a.2⟩ (allV_kv hw (show allV (ss.map (·.2)) = true from e) r)
  | (k, .r n) :: ss, _, e, .cons a r => by cases e
theorem flat_roo (hw : ∀ a, W' a → W a) {o : MO} {ho : HO} (f : flatO o = true) (r : ROO K W φ H o ho) : ROO K W' φ' H o ho := by
  cases o with
  | lst xs => cases ho <;> first | exact allV_rs hw f r | exact r.elim
  | dct kvs => cases ho <;> first | exact allV_kv (c := fun a (b : Key) => a = kD b) hw f r | exact allV_kv (c := fun a (b : List Key) => a = .tup (b.map kD)) hw f r | exact r.elim
  | ins c fs => cases f
theorem flatM_at : ∀ {M : Mh} {n : Nat} {o : MO}, flatM M = true → M[n]? = some (some o) → flatO o = true
  | [], _, _, _, e => by simp at e
  | none :: r, 0, _, f, e => by simp at e
  | none :: r, n + 1, _, f, e => flatM_at (M := r) (n := n) f (by simpa using e)
  | some o :: r, 0, _, f, e => by
    simp at e
    subst e
    exact (Bool.and_eq_true_iff.mp f).1
  | some o :: r, n + 1, _, f, e => flatM_at (M := r) (n := n) (Bool.and_eq_true_iff.mp f).2 (by simpa using e)
end

/-! ## a def's end -/
theorem SI.drop {K : PySem.W.Frag} {B : Bs} {W : Addr → Prop} {φ : List (Option Addr)} {ρ : Rho} {M : Mh} {σ : Sg} {H : Hp} (I : SI K B W φ ρ M σ H) (f : flatM (M.take B.p0.length) = true) : SI K B B.W0 (B.p0.map some) [] (M.take B.p0.length) [] H := by
  have hl : B.p0.length ≤ φ.length := by
    refine Nat.le_of_not_lt fun h => ?_
    have e := I.k0 φ.length _ (List.getElem?_eq_getElem h)
    rw [List.getElem?_eq_none (Nat.le_refl _)] at e
    cases e
  have at_ : ∀ (i : Nat) (a : Addr), (B.p0.map some)[i]? = some (some a) → B.p0[i]? = some a ∧ φ[i]? = some (some a) := fun i a e => by
    rw [List.getElem?_map] at e
    cases g : B.p0[i]? with
    | none =>
      rw [g] at e
      cases e
    | some b =>
      rw [g] at e
      have eb : b = a := Option.some.inj (Option.some.inj e)
      subst eb
      exact ⟨rfl, I.k0 i b g⟩
  refine ⟨by rw [List.length_map, List.length_take, ← I.len]; omega, fun i j a e1 e2 => I.inj i j a (at_ i a e1).2 (at_ j a e2).2, fun i a e => I.pw a (List.mem_of_getElem? (at_ i a e).1), fun a z => I.trk a (I.w0 a z), fun n o e => ?_, fun _ z => z, fun _ z => .inl z, I.fr,
    fun i a e => by rw [List.getElem?_map, e]; rfl, fun i a h e => ?_, fun i s e => by simp at e, rfl, I.wb, I.pw⟩
  · have fo := flatM_at f e
    rw [List.getElem?_take] at e
    split at e
    · rename_i hn
      obtain ⟨a, ho, e1, e2, e3⟩ := I.obj n o e
      have e4 := I.k0 n _ (List.getElem?_eq_getElem hn)
      rw [e1] at e4
      have e5 : a = B.p0[n] := Option.some.inj (Option.some.inj e4)
      exact ⟨a, ho, by rw [List.getElem?_map, List.getElem?_eq_getElem hn, e5]; rfl, e2, flat_roo (fun b z => I.w0 b z) fo e3⟩
    · cases e
  · have := (at_ i a e).1
    rw [List.getElem?_eq_none h] at this
    cases this
/-- .. with one own object more -/
theorem SI.drop1 {K : PySem.W.Frag} {B : Bs} {W : Addr → Prop} {φ : List (Option Addr)} {ρ : Rho} {M : Mh} {σ : Sg} {H : Hp} (I : SI K B W φ ρ M σ H) (f : flatM (M.take B.p0.length) = true) {n : Nat} {o : MO} (hk : B.p0.length ≤ n) (hM : M[n]? = some (some o)) (fo : flatO o = true) :
    ∃ a, φ[n]? = some (some a) ∧ SI K B (fun b => B.W0 b ∨ b = a) (B.p0.map some ++ [some a]) [] (M.take B.p0.length ++ [some o]) [] H := by
  obtain ⟨a, ho, e1, e2, e3⟩ := I.obj n o hM
  have J := I.drop f
  have h0 := I.kn n a hk e1
  have na : ¬ B.W0 a := fun z => by
    obtain ⟨u, g⟩ := I.wb a z
    rw [h0] at g
    cases g
  have hl : (M.take B.p0.length).length = B.p0.length := by
    have := J.len
    rw [List.length_map] at this
    exact this.symm
  have at_ : ∀ (i : Nat) (b : Addr), (B.p0.map some ++ [some a])[i]? = some (some b) → ((B.p0.map some)[i]? = some (some b)) ∨ (i = B.p0.length ∧ b = a) := fun i b e => by
    rcases Nat.lt_or_ge i (B.p0.map some).length with h | h
    · rw [List.getElem?_append_left h] at e
      exact .inl e
    · rw [List.getElem?_append_right h] at e
      rcases Nat.eq_or_lt_of_le h with q | q
      · rw [← q, Nat.sub_self] at e
        refine .inr ⟨?_, (Option.some.inj (Option.some.inj e)).symm⟩
        rw [← q, List.length_map]
      · rw [List.getElem?_eq_none (by simp at q ⊢; omega)] at e
        cases e
  have hw : ∀ b, (B.W0 b ∨ b = a) → W b := fun b z => z.elim (I.w0 b) fun z => by rw [z]; exact I.own n a e1
  refine ⟨a, e1, ⟨by simp [hl], fun i j b g1 g2 => ?_, fun i b g => ?_, fun b z => I.trk b (hw b z), fun i m g => ?_, fun b z => .inl z, fun b z => ?_, J.fr, fun i b g => ?_, fun i b h g => ?_, fun i s e => by simp at e, rfl, I.wb, I.pw⟩⟩
  · rcases at_ i b g1 with q1 | ⟨q1, q2⟩ <;> rcases at_ j b g2 with q3 | ⟨q3, q4⟩
    · exact J.inj i j b q1 q3
    · exact absurd (J.own i b q1) (by rw [q4]; exact na)
    · exact absurd (J.own j b q3) (by rw [q2]; exact na)
    · rw [q1, q3]
  · rcases at_ i b g with q | ⟨_, q⟩
    · exact .inl (J.own i b q)
    · exact .inr q
  · rcases Nat.lt_or_ge i (M.take B.p0.length).length with h | h
    · rw [List.getElem?_append_left h] at g
      have g' := g
      rw [List.getElem?_take] at g'
      split at g'
      · obtain ⟨b, hb, q1, q2, q3⟩ := J.obj i m g
        refine ⟨b, hb, by rw [List.getElem?_append_left (by simpa using (List.getElem?_eq_some_iff.mp q1).1)]; exact q1, q2, ?_⟩
        obtain ⟨b', hb', r1, r2, r3⟩ := I.obj i m g'
        have e4 := I.k0 i b (by
          rw [List.getElem?_map] at q1
          cases g : B.p0[i]? with
          | none =>
            rw [g] at q1
            cases q1
          | some c =>
            rw [g] at q1
            rw [Option.some.inj (Option.some.inj q1)])
        rw [r1] at e4
        have e5 : b' = b := Option.some.inj (Option.some.inj e4)
        subst e5
        rw [q2] at r2
        cases r2
        exact flat_roo hw (flatM_at f g) r3
      · cases g'
    · rw [List.getElem?_append_right h] at g
      rcases Nat.eq_or_lt_of_le h with q | q
      · rw [← q, Nat.sub_self] at g
        have e' : o = m := Option.some.inj (Option.some.inj g)
        subst e'
        refine ⟨a, ho, ?_, e2, flat_roo hw fo e3⟩
        rw [← q, hl]
        simp
      · rw [List.getElem?_eq_none (by simp; omega)] at g
        cases g
  · rcases z with z | z
    · exact .inl z
    · exact .inr (by rw [z]; exact h0)
  · rw [List.getElem?_append_left (by rw [List.length_map]; exact (List.getElem?_eq_some_iff.mp g).1)]
    exact J.k0 i b g
  · rcases at_ i b g with q | ⟨_, q⟩
    · exact J.kn i b h q
    · rw [q]
      exact h0

/-! ## a def's promise by its mirror -/
def CtM (K : PySem.W.Frag) (B : Bs) (res : REx S) (Q : VK) (E : XK) : Prop := match res with
  | .ok s M' => ∀ W' φ' H' x, SI K B W' φ' [] M' [] H' → RS K W' φ' H' s x → Q x H'
  | .exn x M' => ∀ cls d W' φ' H', SI K B W' φ' [] M' [] H' → XR K x cls d H' → E cls d H'
  | .bad => False
abbrev Mf := List S → Mh → REx S
def spM (K : PySem.W.Frag) (m : Mf) : Sp := fun vs H Q E => ∃ (W : Addr → Prop) (p0 : List Addr) (ss : List S) (M : Mh), SI K ⟨W, H, p0⟩ W (p0.map some) [] M [] H ∧ RSs K W (p0.map some) H ss vs ∧ CtM K ⟨W, H, p0⟩ (m ss M) Q E
abbrev Xt := RSt → REx S
/-- an end's function that keeps to k own parameters -/
def XtOk (k : Nat) (ex : Xt) : Prop := ∀ (K : PySem.W.Frag) (B : Bs) (W : Addr → Prop) (H : Hp) (res : RSt) (Q : VK) (E : XK), B.p0.length = k → CtM K B (ex res) Q E → CtS K B (fun cls d _ H => E cls d H) W H res { nx := fun _ H' => Q .non H', rt := Q }
/-- frozen results -/
def xtF (k : Nat) : Xt
  | .nx _ M => if flatM (M.take k) = true then .ok (.v .non) (M.take k) else .bad
  | .rt s M => if flatM (M.take k) = true then (match s with
    | .v d => .ok (.v d) (M.take k)
    | .r n => if k ≤ n then (match M[n]? with
      | some (some (.lst xs)) => (match frzS xs with
        | some ds => .ok (.v (.lst ds)) (M.take k)
        | none => .bad)
      | _ => .bad) else .bad) else .bad
  | .exn x _ M => if flatM (M.take k) = true then .exn x (M.take k) else .bad
  | _ => .bad
/-- a new own object as the result -/
def xtO (k : Nat) : Xt
  | .rt (.r n) M => if flatM (M.take k) = true ∧ k ≤ n then (match M[n]? with
    | some (some o) => if flatO o = true then .ok (.r k) (M.take k ++ [some o]) else .bad
    | _ => .bad) else .bad
  | .exn x _ M => if flatM (M.take k) = true then .exn x (M.take k) else .bad
  | _ => .bad
/-- everything as it is -/
def xtA : Xt
  | .nx _ M => .ok (.v .non) M
  | .rt s M => .ok s M
  | .exn x _ M => .exn x M
  | _ => .bad
theorem SI.noslots {K : PySem.W.Frag} {B : Bs} {W : Addr → Prop} {φ : List (Option Addr)} {ρ : Rho} {M : Mh} {σ : Sg} {H : Hp} (I : SI K B W φ ρ M σ H) : SI K B W φ [] M [] H := I.other rfl fun i s e => by simp at e
theorem xtA_ok (k : Nat) : XtOk k xtA := fun K B W H res Q E hk h => by
  cases res with
  | nx ρ M => exact fun W' φ' σ' H' I _ => h W' φ' H' _ I.noslots .non
  | rt s M => exact fun W' φ' ρ' σ' H' x I _ r => h W' φ' H' x I.noslots r
  | exn x ρ M => exact fun cls d W' φ' σ' H' I xr => h cls d W' φ' H' I.noslots xr
  | _ => exact h.elim
theorem xtF_ok (k : Nat) : XtOk k (xtF k) := fun K B W H res Q E hk h => by
  cases res with
  | nx ρ M =>
    simp only [xtF] at h
    by_cases f : flatM (M.take k) = true
    · rw [if_pos f] at h
      rw [← hk] at f h
      exact fun W' φ' σ' H' I _ => h _ _ H' _ (I.drop f) .non
    · rw [if_neg f] at h
      exact h.elim
  | exn x ρ M =>
    simp only [xtF] at h
    by_cases f : flatM (M.take k) = true
    · rw [if_pos f] at h
      rw [← hk] at f h
      exact fun cls d W' φ' σ' H' I xr => h cls d _ _ H' (I.drop f) xr
    · rw [if_neg f] at h
      exact h.elim
  | rt s M =>
    simp only [xtF] at h
    by_cases f : flatM (M.take k) = true
    · rw [if_pos f] at h
      cases s with
      | v d =>
        rw [← hk] at f h
        exact fun W' φ' ρ' σ' H' x I _ r => h _ _ H' x (I.drop f) (RV.lessW I.w0 r)
      | r n =>
        by_cases hn : k ≤ n
        · simp only [if_pos hn] at h
          cases hM : M[n]? with
          | none => simp only [hM] at h; exact h.elim
          | some o =>
            cases o with
            | none => simp only [hM] at h; exact h.elim
            | some m =>
              cases m with
              | lst xs =>
                cases hf : frzS xs with
                | none => simp only [hM, hf] at h; exact h.elim
                | some ds =>
                  simp only [hM, hf] at h
                  rw [← hk] at f h hn
                  intro W' φ' ρ' σ' H' x I _ r
                  obtain ⟨a, ho, e1, e2, e3⟩ := I.obj n _ hM
                  obtain ⟨y, e4, e5⟩ := r
                  rw [e1] at e4
                  have e6 := e5 a (Option.some.inj e4).symm
                  subst e6
                  have na : ¬ B.W0 a := fun z => by
                    obtain ⟨u, g⟩ := I.wb a z
                    rw [I.kn n a hn e1] at g
                    cases g
                  cases ho <;> first
                    | exact e3.elim
                    | exact h _ _ H' _ (I.drop f) (.lst (.inl ⟨na, .inl e2⟩) (RVs.stw ⟨fun b z => .inl (I.w0 b z), fun _ _ _ e => e⟩ (frzS_ok hf e3)))
              | dct _ => simp only [hM] at h; exact h.elim
              | ins _ _ => simp only [hM] at h; exact h.elim
        · simp only [if_neg hn] at h
          exact h.elim
    · rw [if_neg f] at h
      exact h.elim
  | _ => exact h.elim
theorem xtO_ok (k : Nat) : XtOk k (xtO k) := fun K B W H res Q E hk h => by
  cases res with
  | exn x ρ M =>
    simp only [xtO] at h
    by_cases f : flatM (M.take k) = true
    · rw [if_pos f] at h
      rw [← hk] at f h
      exact fun cls d W' φ' σ' H' I xr => h cls d _ _ H' (I.drop f) xr
    · rw [if_neg f] at h
      exact h.elim
  | rt s M =>
    cases s with
    | v d => exact h.elim
    | r n =>
      simp only [xtO] at h
      by_cases f : flatM (M.take k) = true ∧ k ≤ n
      · rw [if_pos f] at h
        cases hM : M[n]? with
        | none => simp only [hM] at h; exact h.elim
        | some o =>
          cases o with
          | none => simp only [hM] at h; exact h.elim
          | some o =>
            simp only [hM] at h
            by_cases fo : flatO o = true
            · rw [if_pos fo] at h
              rw [← hk] at f h
              intro W' φ' ρ' σ' H' x I _ r
              obtain ⟨a, e1, J⟩ := I.drop1 f.1 f.2 hM fo
              obtain ⟨y, e4, e5⟩ := r
              rw [e1] at e4
              have e6 := e5 a (Option.some.inj e4).symm
              subst e6
              exact h _ _ H' _ J ⟨some a, by simp, fun b z => by rw [Option.some.inj z]⟩
            · rw [if_neg fo] at h
              exact h.elim
      · rw [if_neg f] at h
        exact h.elim
  | _ => exact h.elim
def padR (n : Nat) (ss : List S) : Rho := ss.map some ++ List.replicate (n - ss.length) none
/-- a def's mirror: k own parameters, n parameters, N slots -/
def run (k n N : Nat) (ex : Xt) (b : Sm) : Mf := fun ss M => if M.length = k ∧ ss.length = n then ex (b (padR N ss) M) else .bad
section
variable {P : Program} {w : World} {K : PySem.W.Frag} {mg : Str → Option Value} {base : Heap}
theorem RSs.get' {W : Addr → Prop} {φ : List (Option Addr)} {H : Hp} {ss : List S} {xs : List V} {i : Nat} {s : S} (r : RSs K W φ H ss xs) (e : ss[i]? = some s) : ∃ x, xs[i]? = some x ∧ RS K W φ H s x := RSs.get r e
/-- room, and nothing being shown -/
structure RoomG (k : Nat) (A : Around) : Prop where
  r : Room k A
  g : A.guards = some []
theorem RoomG.mono {j k : Nat} {A : Around} (h : RoomG k A) (l : j ≤ k) : RoomG j A := ⟨h.r.mono l, h.g⟩
theorem RoomG.u64 {k : Nat} {A : Around} (h : RoomG k A) : A.units + 64 < cLine := h.r.units
theorem RoomG.u65 {k : Nat} {A : Around} (h : RoomG k A) : A.units + 65 < cLine := by
  have := h.r.un
  omega
/-- a def's contract -/
structure FnG (P : Program) (w : World) (K : PySem.W.Frag) (mg : Str → Option Value) (base : Heap) (k : Nat) (f : Addr) (fd : FuncData) (ps : List Str) (sp : Sp) : Prop where
  len : ∀ vs H Q E, sp vs H Q E → vs.length = ps.length
  go : ∀ (A : Around) (outer : List Env) (s : Shared) (H : Hp) (args : Args) (us : List Value) (vs : List V) (Q : VK) (E : XK), RoomG k A → Env0 P w K mg base A outer s H → BindsTo s fd args (ps.zip us) → Vals vs us → sp vs H Q E →
    codeAny (model P w) A (.call (.ref f) args) (CR (L2.CX P w) outer P w H s Q E) s
theorem FnG.mono {j k : Nat} {f : Addr} {fd : FuncData} {ps : List Str} {sp : Sp} (F : FnG P w K mg base j f fd ps sp) (h : j ≤ k) : FnG P w K mg base k f fd ps sp :=
  ⟨F.len, fun A outer s H args us vs Q E r => F.go A outer s H args us vs Q E (r.mono h)⟩
theorem fnG_of {x qual : Str} {params : Arguments} {body : List Stmt} {scope : Scope} {dvs : List V} {kws : List (Str × V)} {f : Addr} {fd : FuncData} {N ps : List Str} {k : Nat} {sp : Sp} (F : FunD K x qual params body scope dvs kws f fd) (Sc : FnScope N ps scope)
    (hlen : ∀ vs H Q E, sp vs H Q E → vs.length = ps.length)
    (hb : ∀ (cdv : Value) (A : Around) (outer : List Env) (s : Shared) (H : Hp) (vs : List V) (Q : VK) (E : XK), RoomG k (A.deeper (envOfC qual scope s.heap.objs.size f cdv)) → sp vs H Q E →
      ∃ t, PSs (cxOf (L2.CX P w) P w K mg base N qual scope f cdv A outer s H E) body t ∧ t { nx := fun _ H' => Q .non H', rt := Q } (L2.start N vs) H) : FnG P w K mg base (k + 1) f fd ps sp := by
  obtain ⟨oc, od, dV, kV, doc, pm, an, cdv, ct, osl, rfl, look, code, _, _⟩ := F.ex
  refine ⟨hlen, fun A outer s H args us vs Q E hr en bi rv hs => ?_⟩
  have inK : K.In s.heap := en.mod.kin.keeps fun b o z => (en.bs b o z).1
  refine codeAny_call_function hr.r.depth (inK _ _ look) rfl Sc.co Sc.gen rfl (PySem.W.codeRec_of inK code) (bi _ _ _ _ ?_)
  have kinds : ∀ y ∈ ps.zip us, scope.names.lookup y.1 = some .local ∨ (scope.names.lookup y.1 = some .cell ∧ ((cellsFrom (s.heap.objs.size + 1) scope.names []).lookup y.1).isSome = true) := fun y hy =>
    (Sc.par y.1 (List.of_mem_zip (a := y.1) (b := y.2) hy).1).elim .inl fun q => .inr ⟨q, PySem.W.cellsFrom_some _ _ _ (.inl q)⟩
  refine wpAny_newFunctionEnv_cells Sc.kind kinds fun env e s2 entered => ?_
  subst e
  refine ⟨(en.mod.nolimit.keeps fun b o z => (en.bs b o z).1).keeps entered.toInCall.keep, codeAny_func ?_⟩
  obtain ⟨t, ht, ok⟩ := hb cdv A outer s H vs Q E ⟨hr.r.deeper _, hr.g⟩ hs
  have I : Inv (cxOf (L2.CX P w) P w K mg base N qual scope f cdv A outer s H E) [] (L2.start N vs) H s2 := inv_start Sc hr.r.hd en (hlen _ _ _ _ hs) rv entered
  refine wpAny_mono (ht.run [] s2 (L2.start N vs) H _ I ok) (fun fl s3 z => ?_) fun _ _ z => z
  cases fl with
  | ret u =>
    obtain ⟨y, _, H3, J, ry, z⟩ := z
    exact ⟨y, H3, J.os, J.bare, J.base, J.hok, ry, z⟩
  | next =>
    obtain ⟨_, H3, J, z⟩ := z
    exact ⟨.non, H3, J.os, J.bare, J.base, J.hok, rfl, z⟩
  | brk => exact z.elim fun _ z => z.elim fun _ z => z.2.elim
  | cont => exact z.elim fun _ z => z.elim fun _ z => z.2.elim
theorem fn_ok {x qual : Str} {params : Arguments} {body : List Stmt} {scope : Scope} {dvs : List V} {kws : List (Str × V)} {f : Addr} {fd : FuncData} {N ps : List Str} {k lv : Nat} {ex : Xt} {sm : Sm} (F : FunD K x qual params body scope dvs kws f fd) (Sc : FnScope N ps scope) (hx : XtOk k ex)
    (h : ∀ (cdv : Value) (A : Around) (outer : List Env) (s : Shared) (H : Hp) (E : XK), RoomG lv (A.deeper (envOfC qual scope s.heap.objs.size f cdv)) →
      MSs (cxOf (L2.CX P w) P w K mg base N qual scope f cdv A outer s H E) (fun cls d _ H => E cls d H) k body sm) :
    FnG P w K mg base (lv + 1) f fd ps (spM K (run k ps.length N.length ex sm)) := by
  refine fnG_of F Sc (fun vs H Q E ⟨W, p0, ss, M, I, r, q⟩ => ?_) fun cdv A outer s H vs Q E hr ⟨W, p0, ss, M, I, r, q⟩ => ?_
  · unfold run at q
    by_cases hc : M.length = k ∧ ss.length = ps.length
    · rw [← Paired.length r]
      exact hc.2
    · rw [if_neg hc] at q
      exact q.elim
  unfold run at q
  by_cases hc : M.length = k ∧ ss.length = ps.length
  · rw [if_pos hc] at q
    have hp : p0.length = k := by
      have := I.len
      rw [List.length_map] at this
      rw [this]
      exact hc.1
    refine ⟨_, h cdv A outer s H E hr ⟨W, H, p0⟩ hp, W, p0.map some, padR N.length ss, M, I.other ?_ fun i t e => ?_, hx K ⟨W, H, p0⟩ W H _ Q E hp q⟩
    · unfold padR L2.start
      rw [List.length_append, List.length_append, List.length_map, List.length_map, List.length_replicate, List.length_replicate, Paired.length r]
    · unfold padR at e
      unfold L2.start
      rcases Nat.lt_or_ge i ss.length with g | g
      · rw [List.getElem?_append_left (by rw [List.length_map]; exact g), List.getElem?_map, List.getElem?_eq_getElem g] at e
        have e' : ss[i] = t := Option.some.inj (Option.some.inj e)
        obtain ⟨x, e1, e2⟩ := RSs.get r (List.getElem?_eq_getElem g)
        refine ⟨x, ?_, by rw [← e']; exact e2⟩
        rw [List.getElem?_append_left (by rw [List.length_map]; exact (List.getElem?_eq_some_iff.mp e1).1), List.getElem?_map, e1]
        rfl
      · rw [List.getElem?_append_right (by rw [List.length_map]; exact g)] at e
        have := List.mem_of_getElem? e
        rw [List.mem_replicate] at this
        cases this.2
  · rw [if_neg hc] at q
    exact q.elim
end
end Md
end
section
namespace Md
open PySem PySem.Spec PyProof.Rows L2

/-! ## behind a call -/
theorem SI.ret {K : PySem.W.Frag} {B : Bs} {W W' : Addr → Prop} {φ φ' : List (Option Addr)} {ρ : Rho} {M M' M2 : Mh} {σ : Sg} {H H' : Hp} {p0 : List Addr} (I : SI K B W φ ρ M σ H) (J : SI K ⟨W, H, p0⟩ W' φ' [] M' [] H')
    (hp : ∀ a ∈ p0, ∃ (n : Nat), φ[n]? = some (some a)) (nw : Option Addr) (hn : ∀ b, nw = some b → H b = none ∧ W' b)
    (hl : M2.length = M.length + nw.toList.length)
    (hM : ∀ (i : Nat) (o : MO), i < M.length → M2[i]? = some (some o) → ∃ a, φ[i]? = some (some a) ∧ ((a ∉ p0 ∧ M[i]? = some (some o)) ∨ (∃ ho, H' a = some ho ∧ ROO K W' φ' H' o ho ∧ flatO o = true)))
    (hM2 : ∀ (i : Nat) (o : MO), M.length ≤ i → M2[i]? = some (some o) → ∃ b ho, i = M.length ∧ nw = some b ∧ H' b = some ho ∧ ROO K W' φ' H' o ho ∧ flatO o = true) :
    SI K B (fun a => W a ∨ nw = some a) (φ ++ nw.toList.map some) ρ M2 σ H' ∧ Stb W φ H (fun a => W a ∨ nw = some a) (φ ++ nw.toList.map some) H' := by
  have pW : ∀ a ∈ p0, W a := fun a h => by
    obtain ⟨n, e⟩ := hp a h
    exact I.own n a e
  have at_ : ∀ (i : Nat) (a : Addr), (φ ++ nw.toList.map some)[i]? = some (some a) → (φ[i]? = some (some a)) ∨ (i = φ.length ∧ nw = some a) := fun i a e => by
    rcases Nat.lt_or_ge i φ.length with h | h
    · rw [List.getElem?_append_left h] at e
      exact .inl e
    · rw [List.getElem?_append_right h] at e
      cases nw with
      | none =>
        simp at e
      | some b =>
        rcases Nat.eq_or_lt_of_le h with q | q
        · rw [← q, Nat.sub_self] at e
          have e2 : b = a := Option.some.inj (Option.some.inj e)
          exact .inr ⟨q.symm, by rw [e2]⟩
        · rw [List.getElem?_eq_none (by simp; omega)] at e
          cases e
  have keep : ∀ a o, a ∉ p0 → H a = some o → H' a = some o := fun a o n e => J.fr a o e n
  have there : ∀ a o, H a = some o → ∃ o', H' a = some o' := fun a o e => by
    by_cases q : a ∈ p0
    · exact J.p0At a q
    · exact ⟨o, keep a o q e⟩
  have sub : ∀ a, (W a ∨ nw = some a) → W' a := fun a z => z.elim (J.w0 a) fun z => (hn a z).2
  have st : Stb W φ H (fun a => W a ∨ nw = some a) (φ ++ nw.toList.map some) H' := by
    refine ⟨⟨fun a z => z.elim .inl fun z => .inr (hn a z).1, fun a o n e => keep a o (fun z => n (pW a z)) e⟩, fun n x e => by rw [List.getElem?_append_left (List.getElem?_eq_some_iff.mp e).1]; exact e, fun a o n e => keep a o (fun z => ?_) e, fun n a e => ?_, there, fun a z => .inl z⟩
    · obtain ⟨m, q⟩ := hp a z
      exact n m q
    · rcases at_ n a e with q | ⟨_, q⟩
      · exact .inl q
      · exact .inr (hn a q).1
  refine ⟨⟨?_, fun i j a e1 e2 => ?_, fun i a e => ?_, fun a z => J.trk a (sub a z), fun i o e => ?_, fun a z => .inl (I.w0 a z), fun a z => ?_, fun a o e n => ?_, fun i a e => st.p _ _ (I.k0 i a e), fun i a h e => ?_, fun i s e => ?_, I.slen, I.wb, I.pw⟩, st⟩
  · rw [List.length_append, List.length_map, hl, I.len]
  · rcases at_ i a e1 with q1 | ⟨q1, q2⟩ <;> rcases at_ j a e2 with q3 | ⟨q3, q4⟩
    · exact I.inj i j a q1 q3
    · obtain ⟨o, g⟩ := I.trk a (I.own i a q1)
      rw [(hn a q4).1] at g
      cases g
    · obtain ⟨o, g⟩ := I.trk a (I.own j a q3)
      rw [(hn a q2).1] at g
      cases g
    · rw [q1, q3]
  · rcases at_ i a e with q | ⟨_, q⟩
    · exact .inl (I.own i a q)
    · exact .inr q
  · rcases Nat.lt_or_ge i M.length with h | h
    · obtain ⟨a, e1, e2⟩ := hM i o h e
      rcases e2 with ⟨n, e2⟩ | ⟨ho, e2, e3, e4⟩
      · obtain ⟨a', ho, g1, g2, g3⟩ := I.obj i o e2
        rw [e1] at g1
        cases g1
        exact ⟨a, ho, st.p _ _ e1, keep a ho n g2, g3.stb st⟩
      · exact ⟨a, ho, st.p _ _ e1, e2, flat_roo sub e4 e3⟩
    · obtain ⟨b, ho, e1, e2, e3, e4, e5⟩ := hM2 i o h e
      refine ⟨b, ho, ?_, e3, flat_roo sub e5 e4⟩
      rw [e1, ← I.len, e2]
      simp
  · rcases z with z | z
    · exact I.wn a z
    · exact .inr (I.free (hn a z).1)
  · refine keep a o (fun z => ?_) (I.fr a o e n)
    obtain ⟨m, q⟩ := hp a z
    rcases Nat.lt_or_ge m B.p0.length with h | h
    · have e2 := I.k0 m _ (List.getElem?_eq_getElem h)
      rw [q] at e2
      have e3 : a = B.p0[m] := Option.some.inj (Option.some.inj e2)
      exact n (by rw [e3]; exact List.getElem_mem h)
    · rw [I.kn m a h q] at e
      cases e
  · rcases at_ i a e with q | ⟨_, q⟩
    · exact I.kn i a h q
    · exact I.free (hn a q).1
  · obtain ⟨x, e1, e2⟩ := I.slots i s e
    exact ⟨x, e1, e2.stb st⟩
theorem SI.ret0 {K : PySem.W.Frag} {B : Bs} {W W' : Addr → Prop} {φ φ' : List (Option Addr)} {ρ : Rho} {M : Mh} {σ : Sg} {H H' : Hp} (I : SI K B W φ ρ M σ H) (J : SI K ⟨W, H, []⟩ W' φ' [] [] [] H') :
    SI K B (fun a => W a ∨ (none : Option Addr) = some a) (φ ++ (none : Option Addr).toList.map some) ρ M σ H' ∧ Stb W φ H (fun a => W a ∨ (none : Option Addr) = some a) (φ ++ (none : Option Addr).toList.map some) H' :=
  I.ret (M2 := M) (nw := none) J (fun a h => by simp at h) (fun b z => nomatch z) rfl (fun i o h e => by
    obtain ⟨a, ho, e1, _⟩ := I.obj i o e
    exact ⟨a, e1, .inl ⟨by simp, e⟩⟩) (fun i o h e => by rw [List.getElem?_eq_none h] at e; cases e)
/-- a call's start: the own objects handed in -/
theorem SI.callee {K : PySem.W.Frag} {B : Bs} {W : Addr → Prop} {φ : List (Option Addr)} {ρ : Rho} {M : Mh} {σ : Sg} {H : Hp} (I : SI K B W φ ρ M σ H) : SI K ⟨W, H, []⟩ W [] [] [] [] H :=
  ⟨rfl, fun i j a e => by simp at e, fun i a e => by simp at e, I.trk, fun i o e => by simp at e, fun _ z => z, fun _ z => .inl z, fun _ _ e _ => e, fun i a e => by simp at e, fun i a _ e => by simp at e, fun i s e => by simp at e, rfl, I.trk, fun a h => by simp at h⟩
theorem SI.callee1 {K : PySem.W.Frag} {B : Bs} {W : Addr → Prop} {φ : List (Option Addr)} {ρ : Rho} {M : Mh} {σ : Sg} {H : Hp} (I : SI K B W φ ρ M σ H) {n : Nat} {o : MO} {a : Addr} (hM : M[n]? = some (some o)) (ha : φ[n]? = some (some a)) (fo : flatO o = true) : SI K ⟨W, H, [a]⟩ W [some a] [] [some o] [] H := by
  have one : ∀ {α : Type} {x y : α} {i : Nat}, [x][i]? = some y → i = 0 ∧ x = y := fun {α x y i} e => by
    cases i with
    | zero =>
      simp at e
      exact ⟨rfl, e⟩
    | succ i => simp at e
  refine ⟨rfl, fun i j b e1 e2 => by rw [(one e1).1, (one e2).1], fun i b e => ?_, I.trk, fun i m e => ?_, fun _ z => z, fun _ z => .inl z, fun _ _ e _ => e, fun i b e => ?_, fun i b h e => ?_, fun i s e => by simp at e, rfl, I.trk, fun b h => ?_⟩
  · rw [← Option.some.inj (one e).2]
    exact I.own n a ha
  · obtain ⟨e1, e2⟩ := one e
    have e3 := Option.some.inj e2
    subst e3
    obtain ⟨a', ho, g1, g2, g3⟩ := I.obj n o hM
    rw [ha] at g1
    have g4 := Option.some.inj (Option.some.inj g1)
    subst g4
    exact ⟨a, ho, by rw [e1]; rfl, g2, flat_roo (fun _ z => z) fo g3⟩
  · obtain ⟨e1, e2⟩ := one (show [a][i]? = some b from e)
    rw [e1, ← e2]
    rfl
  · have h1 : 1 ≤ i := h
    rw [(one e).1] at h1
    omega
  · have : b = a := by simpa using h
    rw [this]
    exact I.own n a ha
theorem SI.calleeA {K : PySem.W.Frag} {B : Bs} {W : Addr → Prop} {φ : List (Option Addr)} {ρ : Rho} {M : Mh} {σ : Sg} {H : Hp} (I : SI K B W φ ρ M σ H) {p0 : List Addr} (hp : φ = p0.map some) : SI K ⟨W, H, p0⟩ W (p0.map some) [] M [] H := by
  subst hp
  refine ⟨I.len, I.inj, I.own, I.trk, I.obj, fun _ z => z, fun _ z => .inl z, fun _ _ e _ => e, fun i a e => by rw [List.getElem?_map, e]; rfl, fun i a h e => ?_, fun i s e => by simp at e, rfl, I.trk, fun a h => ?_⟩
  · rw [List.getElem?_eq_none (by rw [List.length_map]; exact h)] at e
    cases e
  · obtain ⟨i, hi, e⟩ := List.getElem_of_mem h
    exact I.own i a (by rw [List.getElem?_map, List.getElem?_eq_getElem hi, e]; rfl)

/-! ## calls of own defs -/
/-- the def of the name x, called with n written arguments, has the mirror m -/
structure FnM (P : Program) (w : World) (K : PySem.W.Frag) (mg : Str → Option Value) (base : Heap) (lv : Nat) (x : Str) (m : Mf) : Prop where
  ex : ∃ (f : Addr) (fd : FuncData) (ps : List Str) (m' : Mf) (dss : List D) (dvs : List V) (ds : List Value), FnG P w K mg base lv f fd ps (spM K m') ∧ mg x = some (.ref f) ∧ PySem.W.keepIn K (.ref f) = true ∧ Binds K fd ps ds ∧ Vals dvs ds ∧
    (∀ W H, RVs K W H dss dvs) ∧ ∀ ss M, m ss M = m' (ss ++ dss.map .v) M
theorem FnM.mono {P : Program} {w : World} {K : PySem.W.Frag} {mg : Str → Option Value} {base : Heap} {lv lv' : Nat} {x : Str} {m : Mf} (F : FnM P w K mg base lv x m) (h : lv ≤ lv') : FnM P w K mg base lv' x m := by
  obtain ⟨f, fd, ps, m', dss, dvs, ds, h1, h2⟩ := F.ex
  exact ⟨f, fd, ps, m', dss, dvs, ds, h1.mono h, h2⟩
section
variable {X : Cx} {Wx : WX} {k : Nat}
/-- what a call wants, by its mirror: the argument list's heap -/
def tCallM (sp : Sp) (dvs : List V) (E : Sg → XK) (t : TA) : TE := fun σ H Q => t σ H fun vs H1 => sp (vs ++ dvs) H1 Q (E σ)
theorem pe_callM {lv : Nat} {f : Addr} {fd : FuncData} {ps : List Str} {sp : Sp} {dvs : List V} {ds : List Value} {x : Str} {p pos : Pos} {e : Expr} {es : List Expr} {t : TA} (F : FnG X.prog X.w X.K X.mg X.base lv f fd ps sp) (hr : RoomG lv X.A) (hg : Gl X x) (hm : X.mg x = some (.ref f)) (hk : PySem.W.keepIn X.K (.ref f) = true) (hb : Binds X.K fd ps ds) (hd : Vals dvs ds) (tk : Takes X Wx)
    (ha : PA X (e :: es) t) (hdb : (x == ("__debug__" : Str)) = false := by decide) (he : starEach (e :: es) X.env = (false, eval e X.env) :: starEach es X.env := by rfl) (hpl : (backTo pos (starEach es X.env)).any (·.1) = false := by rfl) :
    PE X (.Call (.Name x p) (e :: es) [] pos) (tCallM sp dvs (WE Wx) t) := by
  refine ⟨fun pins s σ H Q I h => ?_⟩
  refine wpAny_Call_Name_kw (ld_glob I hg hm ?_ hdb)
  refine PySem.W.callWith_K (h₀ := X.base) I.ok.mod.kin hk (thn (ha.run pos pins s σ H _ I h) fun us s1 ⟨vs, H1, I1, r, q⟩ => ⟨I1.kIn, ?_⟩) he hpl
  have r2 : Vals (vs ++ dvs) (us ++ ds) := r.append hd
  have hl : (us ++ ds).length = ps.length := by rw [← r2.length]; exact F.len _ _ _ _ q
  refine wpAny_call (codeAny_mono (F.go X.A X.stack s1 H1 ⟨us, []⟩ (us ++ ds) (vs ++ dvs) Q _ hr I1.env0 (hb s1 us I1.kIn hl) r2 q) fun r s' hq => ?_)
  cases r with
  | error e => exact passAt tk σ pins H1 s1 e s' I1 hq
  | ok fl =>
    cases fl with
    | ret u => exact I1.after hq
    | next => exact False.elim hq
    | brk => exact False.elim hq
    | cont => exact False.elim hq
/-- how a mirror is called: from the arguments and the own objects; dss: the defaults -/
def Caller (K : PySem.W.Frag) (m : Mf) (g : List S → Mh → REx S) : Prop := ∀ (dss : List D) (m' : Mf) B (Wx : WX) σ ρ W φ H M ss xs dvs Q, (∀ ss M, m ss M = m' (ss ++ dss.map .v) M) → (∀ W H, RVs K W H dss dvs) → SI K B W φ ρ M σ H → RSs K W φ H ss xs → Ct K B Wx σ ρ (RS K) W φ H (g ss M) Q →
  spM K m' (xs ++ dvs) H Q (WE Wx σ)
theorem me_call {lv : Nat} {m : Mf} {g : List S → Mh → REx S} {x : Str} {p pos : Pos} {e : Expr} {es : List Expr} {ea : Em (List S)} (F : FnM X.prog X.w X.K X.mg X.base lv x m) (hc : Caller X.K m g) (hr : RoomG lv X.A) (hg : Gl X x) (tk : Takes X Wx)
    (ha : MA X Wx (e :: es) ea) (hdb : (x == ("__debug__" : Str)) = false := by decide) (he : starEach (e :: es) X.env = (false, eval e X.env) :: starEach es X.env := by rfl) (hpl : (backTo pos (starEach es X.env)).any (·.1) = false := by rfl) :
    ME X Wx (.Call (.Name x p) (e :: es) [] pos) (eCall g ea) := fun B => by
  obtain ⟨f, fd, ps, m', dss, dvs, ds, h1, h2, h3, h4, h5, h6, h7⟩ := F.ex
  refine pe_imp (pe_callM h1 hr hg h2 h3 h4 h5 tk (ha B) hdb he hpl) fun σ H Q ⟨W, φ, ρ, M, I, q⟩ => ?_
  refine tl_mono (ct_bind (R := RSs X.K) I q) fun xs H1 ⟨W1, φ1, M1, ss, I1, st1, r1, q1⟩ => ?_
  exact hc dss m' B Wx σ ρ W1 φ1 H1 M1 ss xs dvs Q h7 h6 I1 r1 q1
end
/-! ### the ways to call -/
/-- all arguments frozen, the result frozen -/
def gP (m : Mf) (ss : List S) (M : Mh) : REx S := if allV ss = true then (match m ss [] with
  | .ok (.v d) [] => .ok (.v d) M
  | .exn x [] => .exn x M
  | _ => .bad) else .bad
/-- .. the result a new own object -/
def gO (m : Mf) (ss : List S) (M : Mh) : REx S := if allV ss = true then (match m ss [] with
  | .ok (.r 0) [some o] => if flatO o = true then .ok (.r M.length) (M ++ [some o]) else .bad
  | .exn x [] => .exn x M
  | _ => .bad) else .bad
/-- .. the new own list frozen at once -/
def gOF (m : Mf) (ss : List S) (M : Mh) : REx S := if allV ss = true then (match m ss [] with
  | .ok (.r 0) [some (.lst xs)] => (match frzS xs with
    | some ds => .ok (.v (.lst ds)) M
    | none => .bad)
  | .exn x [] => .exn x M
  | _ => .bad) else .bad
/-- the first argument an own object, the result frozen -/
def gB (m : Mf) (ss : List S) (M : Mh) : REx S := match ss with
  | .r n :: rest => if allV rest = true then (match M[n]? with
    | some (some o) => if flatO o = true then (match m (.r 0 :: rest) [some o] with
      | .ok (.v d) [some o'] => if flatO o' = true then .ok (.v d) (M.set n (some o')) else .bad
      | .exn x [some o'] => if flatO o' = true then .exn x (M.set n (some o')) else .bad
      | _ => .bad) else .bad
    | _ => .bad) else .bad
  | _ => .bad
/-- .. the result a new own object -/
def gBO (m : Mf) (ss : List S) (M : Mh) : REx S := match ss with
  | .r n :: rest => if allV rest = true then (match M[n]? with
    | some (some o) => if flatO o = true then (match m (.r 0 :: rest) [some o] with
      | .ok (.r 1) [some o', some o2] => if flatO o' = true ∧ flatO o2 = true then .ok (.r M.length) (M.set n (some o') ++ [some o2]) else .bad
      | _ => .bad) else .bad
    | _ => .bad) else .bad
  | _ => .bad
/-- everything shared -/
def gA (m : Mf) (ss : List S) (M : Mh) : REx S := m ss M
theorem allV_map : ∀ {ss : List S} {dss : List D}, allV ss = true → allV (ss ++ dss.map .v) = true
  | [], [], _ => rfl
  | [], _ :: ds, h => allV_map (ss := []) (dss := ds) h
  | .v _ :: ss, _, h => allV_map (ss := ss) h
  | .r _ :: _, _, h => by cases h
section
variable {K : PySem.W.Frag} {m : Mf}
theorem RSs.app {W : Addr → Prop} {φ : List (Option Addr)} {H : Hp} : ∀ {ds es : List S} {xs ys : List V}, RSs K W φ H ds xs → RSs K W φ H es ys → RSs K W φ H (ds ++ es) (xs ++ ys)
  | _, _, _, _, .nil, h => h
  | _, _, _, _, .cons a r, h => .cons a (RSs.app r h)
theorem call_p : Caller K m (gP m) := fun dss m' B Wx σ ρ W φ H M ss xs dvs Q hm hd I r q => by
  unfold gP at q
  by_cases hv : allV ss = true
  · rw [if_pos hv, hm ss []] at q
    refine ⟨W, [], ss ++ dss.map .v, [], I.callee, RSs.app (allV_rs (fun _ z => z) hv r) (rs_of_rv (hd W H)), ?_⟩
    generalize m' (ss ++ dss.map .v) [] = res at q ⊢
    cases res with
    | bad => exact q
    | exn x M1 =>
      cases M1 with
      | cons _ _ => exact q.elim
      | nil =>
        intro cls d W' φ' H' J xr
        exact q cls d _ _ H' (I.ret0 J).1 xr
    | ok s M1 =>
      cases s with
      | r n => exact q.elim
      | v d =>
        cases M1 with
        | cons _ _ => exact q.elim
        | nil =>
          intro W' φ' H' x J rx
          exact q _ _ H' x (I.ret0 J).1 (I.ret0 J).2 (RV.lessW (fun a z => z.elim (J.w0 a) fun z => nomatch z) rx)
  · rw [if_neg hv] at q
    exact q.elim
theorem call_o : Caller K m (gO m) := fun dss m' B Wx σ ρ W φ H M ss xs dvs Q hm hd I r q => by
  unfold gO at q
  by_cases hv : allV ss = true
  · rw [if_pos hv, hm ss []] at q
    refine ⟨W, [], ss ++ dss.map .v, [], I.callee, RSs.app (allV_rs (fun _ z => z) hv r) (rs_of_rv (hd W H)), ?_⟩
    generalize m' (ss ++ dss.map .v) [] = res at q ⊢
    cases res with
    | bad => exact q
    | exn x M1 =>
      cases M1 with
      | cons _ _ => exact q.elim
      | nil =>
        intro cls d W' φ' H' J xr
        exact q cls d _ _ H' (I.ret0 J).1 xr
    | ok s M1 =>
      cases s with
      | v d => exact q.elim
      | r n =>
        cases n with
        | succ n => exact q.elim
        | zero =>
          cases M1 with
          | nil => exact q.elim
          | cons o M1 =>
            cases o with
            | none => cases M1 <;> exact q.elim
            | some o =>
              cases M1 with
              | cons _ _ => exact q.elim
              | nil =>
                change Ct K B Wx σ ρ (RS K) W φ H (if flatO o = true then .ok (.r M.length) (M ++ [some o]) else .bad) Q at q
                by_cases fo : flatO o = true
                · rw [if_pos fo] at q
                  intro W' φ' H' x J rx
                  obtain ⟨b, ho, e1, e2, e3⟩ := J.obj 0 o rfl
                  have hb := J.kn 0 b (Nat.le_refl _) e1
                  have ret := I.ret (M2 := M ++ [some o]) (nw := some b) J (fun a h => by simp at h) (fun c z => by cases z; exact ⟨hb, J.own 0 b e1⟩) (by simp) (fun i m h e => by
                    rw [List.getElem?_append_left h] at e
                    obtain ⟨a, ho, e1, _⟩ := I.obj i m e
                    exact ⟨a, e1, .inl ⟨by simp, e⟩⟩) (fun i m h e => by
                    rw [List.getElem?_append_right h] at e
                    rcases Nat.eq_or_lt_of_le h with q2 | q2
                    · rw [← q2, Nat.sub_self] at e
                      have e' : o = m := Option.some.inj (Option.some.inj e)
                      subst e'
                      exact ⟨b, ho, q2.symm, rfl, e2, e3, fo⟩
                    · rw [List.getElem?_eq_none (by simp; omega)] at e
                      cases e)
                  obtain ⟨y, e4, e5⟩ := rx
                  rw [e1] at e4
                  have e6 := e5 b (Option.some.inj e4).symm
                  subst e6
                  refine q _ _ H' _ ret.1 ret.2 ⟨some b, ?_, fun a z => by rw [Option.some.inj z]⟩
                  rw [← I.len]
                  simp
                · rw [if_neg fo] at q
                  exact q.elim
  · rw [if_neg hv] at q
    exact q.elim
theorem call_b : Caller K m (gB m) := fun dss m' B Wx σ ρ W φ H M ss xs dvs Q hm hd I r q => by
  cases r with
  | nil => exact q.elim
  | @cons s x rest xs r1 r2 =>
    cases s with
    | v d => exact q.elim
    | r n =>
      unfold gB at q
      by_cases hv : allV rest = true
      · simp only [if_pos hv] at q
        cases hM : M[n]? with
        | none => simp only [hM] at q; exact q.elim
        | some o =>
          cases o with
          | none => simp only [hM] at q; exact q.elim
          | some o =>
            simp only [hM] at q
            by_cases fo : flatO o = true
            · rw [if_pos fo, hm (.r 0 :: rest) [some o]] at q
              obtain ⟨a, ho, e1, e2, e3⟩ := I.obj n o hM
              obtain ⟨y, e4, e5⟩ := r1
              rw [e1] at e4
              have e6 := e5 a (Option.some.inj e4).symm
              subst e6
              refine ⟨W, [a], .r 0 :: (rest ++ dss.map .v), [some o], I.callee1 hM e1 fo, .cons ⟨some a, rfl, fun b z => by rw [Option.some.inj z]⟩ (RSs.app (allV_rs (fun _ z => z) hv r2) (rs_of_rv (hd W H))), ?_⟩
              change Ct K B Wx σ ρ (RS K) W φ H (match m' (.r 0 :: (rest ++ dss.map .v)) [some o] with
                | .ok (.v d) [some o'] => if flatO o' = true then .ok (.v d) (M.set n (some o')) else .bad
                | .exn x [some o'] => if flatO o' = true then .exn x (M.set n (some o')) else .bad
                | _ => .bad) Q at q
              have back : ∀ {o' : MO} {W' φ' H'}, flatO o' = true → SI K ⟨W, H, [a]⟩ W' φ' [] [some o'] [] H' → SI K B (fun c => W c ∨ (none : Option Addr) = some c) (φ ++ (none : Option Addr).toList.map some) ρ (M.set n (some o')) σ H' ∧ Stb W φ H (fun c => W c ∨ (none : Option Addr) = some c) (φ ++ (none : Option Addr).toList.map some) H' := fun {o' W' φ' H'} fo' J => by
                refine I.ret (M2 := M.set n (some o')) (nw := none) J (fun c h => ?_) (fun b z => nomatch z) (by simp) (fun i m h e => ?_) (fun i m h e => by rw [List.getElem?_eq_none (by simpa using h)] at e; cases e)
                · have hc : c = a := by simpa using h
                  rw [hc]
                  exact ⟨n, e1⟩
                · by_cases qn : n = i
                  · subst qn
                    rw [List.getElem?_set_self h] at e
                    have e' : o' = m := Option.some.inj (Option.some.inj e)
                    subst e'
                    obtain ⟨a', ho', g1, g2, g3⟩ := J.obj 0 o' rfl
                    have g4 := J.k0 0 a rfl
                    rw [g1] at g4
                    have g5 := Option.some.inj (Option.some.inj g4)
                    subst g5
                    exact ⟨a', e1, .inr ⟨ho', g2, g3, fo'⟩⟩
                  · rw [List.getElem?_set_ne qn] at e
                    obtain ⟨b, hb, g1, _⟩ := I.obj i m e
                    refine ⟨b, g1, .inl ⟨fun z => ?_, e⟩⟩
                    have hc : b = a := by simpa using z
                    rw [hc] at g1
                    exact qn (I.inj n i a e1 g1)
              generalize m' (.r 0 :: (rest ++ dss.map .v)) [some o] = res at q ⊢
              cases res with
              | bad => exact q
              | exn x M1 =>
                cases M1 with
                | nil => exact q.elim
                | cons o1 M1 =>
                  cases o1 with
                  | none => cases M1 <;> exact q.elim
                  | some o1 =>
                    cases M1 with
                    | cons _ _ => exact q.elim
                    | nil =>
                      change Ct K B Wx σ ρ (RS K) W φ H (if flatO o1 = true then .exn x (M.set n (some o1)) else .bad) Q at q
                      by_cases f1 : flatO o1 = true
                      · rw [if_pos f1] at q
                        exact fun cls d W' φ' H' J xr => q cls d _ _ H' (back f1 J).1 xr
                      · rw [if_neg f1] at q
                        exact q.elim
              | ok s M1 =>
                cases s with
                | r _ => exact q.elim
                | v d =>
                  cases M1 with
                  | nil => exact q.elim
                  | cons o1 M1 =>
                    cases o1 with
                    | none => cases M1 <;> exact q.elim
                    | some o1 =>
                      cases M1 with
                      | cons _ _ => exact q.elim
                      | nil =>
                        change Ct K B Wx σ ρ (RS K) W φ H (if flatO o1 = true then .ok (.v d) (M.set n (some o1)) else .bad) Q at q
                        by_cases f1 : flatO o1 = true
                        · rw [if_pos f1] at q
                          exact fun W' φ' H' x J rx => q _ _ H' x (back f1 J).1 (back f1 J).2 (RV.lessW (fun c z => z.elim (J.w0 c) fun z => nomatch z) rx)
                        · rw [if_neg f1] at q
                          exact q.elim
            · rw [if_neg fo] at q
              exact q.elim
      · simp only [if_neg hv] at q
        exact q.elim
end
end Md
end
section
namespace Md
open PySem PySem.Spec PyProof.Rows L2

/-! ## what a value lists -/
def lstS : S → Mh → Option (List D)
  | .v (.lst ds), _ => some ds
  | .r n, M => (match M[n]? with
    | some (some (.lst xs)) => frzS xs
    | _ => none)
  | _, _ => none
def seqS : S → Mh → Option (List D)
  | .v (.tup ds), _ => some ds
  | s, M => lstS s M
section
variable {K : PySem.W.Frag} {B : Bs} {W : Addr → Prop} {φ : List (Option Addr)} {ρ : Rho} {M : Mh} {σ : Sg} {H : Hp}
theorem lstS_ok (I : SI K B W φ ρ M σ H) {s : S} {x : V} {ds : List D} (r : RS K W φ H s x) (e : lstS s M = some ds) : ∃ a vs, x = .ref a ∧ SqL K H a vs ∧ RVs K W H ds vs := by
  cases s with
  | v d =>
    cases d with
    | lst es =>
      cases e
      cases r with
      | lst h1 h2 => exact ⟨_, _, rfl, h1.sq, h2⟩
    | _ => cases e
  | r n =>
    simp only [lstS] at e
    cases hM : M[n]? with
    | none => simp only [hM] at e; cases e
    | some o =>
      cases o with
      | none => simp only [hM] at e; cases e
      | some m =>
        cases m with
        | lst xs =>
          simp only [hM] at e
          obtain ⟨a, ho, e1, e2, e3⟩ := I.obj n _ hM
          obtain ⟨y, e4, e5⟩ := r
          rw [e1] at e4
          have e6 := e5 a (Option.some.inj e4).symm
          subst e6
          cases ho <;> first
            | exact e3.elim
            | exact ⟨a, _, rfl, .inl (.inl e2), frzS_ok e e3⟩
        | dct _ => simp only [hM] at e; cases e
        | ins _ _ => simp only [hM] at e; cases e
theorem seqS_ok (I : SI K B W φ ρ M σ H) {s : S} {x : V} {ds : List D} (r : RS K W φ H s x) (e : seqS s M = some ds) : ∃ a vs, x = .ref a ∧ (SqL K H a vs ∨ SqT K H a vs) ∧ RVs K W H ds vs := by
  by_cases h : ∃ es, s = .v (.tup es)
  · obtain ⟨es, rfl⟩ := h
    cases e
    cases r with
    | tup h1 h2 => exact ⟨_, _, rfl, .inr h1.sq, h2⟩
  · have e2 : lstS s M = some ds := by
      cases s with
      | r n => exact e
      | v d =>
        cases d with
        | tup es => exact absurd ⟨es, rfl⟩ h
        | _ => exact e
    obtain ⟨a, vs, h1, h2, h3⟩ := lstS_ok I r e2
    exact ⟨a, vs, h1, .inl h2, h3⟩
end
/-! ## built-in functions -/
section
variable {X : Cx} {Wx : WX} {e : Expr} {es : List Expr} {ea : Em (List S)} {x : Str} {p pos : Pos}
theorem me_callB {id : String} {g : List S → Mh → REx S} (ho : CallM X (.builtin id) g) (hg : Gl X x) (hm : X.mg x = none) (hv : bootBuiltins x = some (.builtin id)) (ha : MA X Wx (e :: es) ea) (hn : x ≠ "__name__" := by decide) (hdb : (x == ("__debug__" : Str)) = false := by decide)
    (he : starEach (e :: es) X.env = (false, eval e X.env) :: starEach es X.env := by rfl) (hpl : (backTo pos (starEach es X.env)).any (·.1) = false := by rfl) : ME X Wx (.Call (.Name x p) (e :: es) [] pos) (eCall g ea) := fun B =>
  pe_imp (pe_callB (ho B Wx) hg hm hv (ha B) hn hdb he hpl) fun σ H Q ⟨W, φ, ρ, M, I, h⟩ => tl_mono (ct_bind (R := RSs X.K) I h) fun xs H1 ⟨W1, φ1, M1, ss, I1, st1, r1, h1⟩ => ⟨σ, W1, φ1, _, M1, ss, I1, r1, h1⟩
theorem me_callT {T : String} {g : List S → Mh → REx S} (ho : CallM X (.type T) g) (hg : Gl X x) (hm : X.mg x = none) (hv : bootBuiltins x = some (.type T)) (ha : MA X Wx (e :: es) ea) (hn : x ≠ "__name__" := by decide) (hdb : (x == ("__debug__" : Str)) = false := by decide)
    (he : starEach (e :: es) X.env = (false, eval e X.env) :: starEach es X.env := by rfl) (hpl : (backTo pos (starEach es X.env)).any (·.1) = false := by rfl) : ME X Wx (.Call (.Name x p) (e :: es) [] pos) (eCall g ea) := fun B =>
  pe_imp (pe_callTy (ho B Wx) hg hm hv (ha B) hn hdb he hpl) fun σ H Q ⟨W, φ, ρ, M, I, h⟩ => tl_mono (ct_bind (R := RSs X.K) I h) fun xs H1 ⟨W1, φ1, M1, ss, I1, st1, r1, h1⟩ => ⟨σ, W1, φ1, _, M1, ss, I1, r1, h1⟩
/-- .. that make a list -/
def CallF (X : Cx) (f : Value) (g : List S → Mh → Option (List D)) : Prop := ∀ B Wx, CallR X f fun xs H Q => ∃ σ W φ ρ M ss ds, SI X.K B W φ ρ M σ H ∧ RSs X.K W φ H ss xs ∧ g ss M = some ds ∧ CtF X.K B Wx σ ρ W φ H (.ok ds M) Q
def eCallF (g : List S → Mh → Option (List D)) (a : Em (List S)) : Em (List D) := eb a fun ss => fun _ M => match g ss M with
  | some ds => .ok ds M
  | none => .bad
theorem callF_of {B : Bs} {g : List S → Mh → Option (List D)} {σ : Sg} {H : Hp} {Q : VK} (h : tlF X.K B Wx (eCallF g ea) σ H Q) : tl X.K B Wx (RSs X.K) ea σ H fun xs H1 => ∃ σ W φ ρ M ss ds, SI X.K B W φ ρ M σ H1 ∧ RSs X.K W φ H1 ss xs ∧ g ss M = some ds ∧ CtF X.K B Wx σ ρ W φ H1 (.ok ds M) Q := by
  obtain ⟨W, φ, ρ, M, I, h⟩ := h
  refine tl_mono (ct_bindF (R := RSs X.K) I h) fun xs H1 ⟨W1, φ1, M1, ss, I1, st1, r1, h1⟩ => ?_
  cases e : g ss M1 with
  | none =>
    simp only [e] at h1
    exact h1.elim
  | some ds =>
    simp only [e] at h1
    exact ⟨σ, W1, φ1, ρ, M1, ss, ds, I1, r1, e, h1⟩
theorem mf_callB {id : String} {g : List S → Mh → Option (List D)} (ho : CallF X (.builtin id) g) (hg : Gl X x) (hm : X.mg x = none) (hv : bootBuiltins x = some (.builtin id)) (ha : MA X Wx (e :: es) ea) (hn : x ≠ "__name__" := by decide) (hdb : (x == ("__debug__" : Str)) = false := by decide)
    (he : starEach (e :: es) X.env = (false, eval e X.env) :: starEach es X.env := by rfl) (hpl : (backTo pos (starEach es X.env)).any (·.1) = false := by rfl) : MF X Wx (.Call (.Name x p) (e :: es) [] pos) (eCallF g ea) := fun B =>
  pe_imp (pe_callB (ho B Wx) hg hm hv (ha B) hn hdb he hpl) fun σ H Q h => callF_of h
theorem mf_callT {T : String} {g : List S → Mh → Option (List D)} (ho : CallF X (.type T) g) (hg : Gl X x) (hm : X.mg x = none) (hv : bootBuiltins x = some (.type T)) (ha : MA X Wx (e :: es) ea) (hn : x ≠ "__name__" := by decide) (hdb : (x == ("__debug__" : Str)) = false := by decide)
    (he : starEach (e :: es) X.env = (false, eval e X.env) :: starEach es X.env := by rfl) (hpl : (backTo pos (starEach es X.env)).any (·.1) = false := by rfl) : MF X Wx (.Call (.Name x p) (e :: es) [] pos) (eCallF g ea) := fun B =>
  pe_imp (pe_callTy (ho B Wx) hg hm hv (ha B) hn hdb he hpl) fun σ H Q h => callF_of h
/-- functions of frozen arguments -/
def onL (f : List D → Option D) (ss : List S) (M : Mh) : REx S := match frzS ss with
  | some ds => eD M (f ds)
  | none => .bad
theorem onL_of {f : Value} {g : List D → Option D} {r : List V → Hp → VK → Prop} (h : CallR X f r)
    (hr : ∀ B Wx σ ρ W φ H M ds d xs Q, SI X.K B W φ ρ M σ H → g ds = some d → RVs X.K W H ds xs → Ct X.K B Wx σ ρ (RS X.K) W φ H (.ok (.v d) M) Q → r xs H Q) : CallM X f (onL g) :=
  callM_of h fun B Wx xs H Q ⟨σ, W, φ, ρ, M, ss, I, r1, q⟩ => by
    unfold onL at q
    cases e : frzS ss with
    | none =>
      simp only [e] at q
      exact q.elim
    | some ds =>
      simp only [e] at q
      obtain ⟨d, e2, q2⟩ := eD_some q
      exact hr B Wx σ ρ W φ H M ds d xs Q I e2 (frzS_ok e r1) q2
theorem rvs1 {K : PySem.W.Frag} {W : Addr → Prop} {H : Hp} {d : D} {xs : List V} (r : RVs K W H [d] xs) : ∃ x, xs = [x] ∧ RV K W H d x := by
  cases r with
  | cons a b =>
    cases b
    exact ⟨_, rfl, a⟩
theorem rvs2 {K : PySem.W.Frag} {W : Addr → Prop} {H : Hp} {d e : D} {xs : List V} (r : RVs K W H [d, e] xs) : ∃ x y, xs = [x, y] ∧ RV K W H d x ∧ RV K W H e y := by
  cases r with
  | cons a b =>
    cases b with
    | cons c d =>
      cases d
      exact ⟨_, _, rfl, a, c⟩
def absL : List D → Option D
  | [.int i] => some (.int (if i < 0 then -i else i))
  | _ => none
def maxL : List D → Option D
  | [.int i, .int j] => some (.int (if j > i then j else i))
  | _ => none
def minL : List D → Option D
  | [.int i, .int j] => some (.int (if j < i then j else i))
  | _ => none
def intL : List D → Option D
  | [.int i] => some (.int i)
  | [.bl b] => some (.int (if b then 1 else 0))
  | _ => none
def strL : List D → Option D
  | [.int i] => if i.natAbs.log2 < 1920 then some (.str (toString i)) else none
  | _ => none
theorem cm_abs : CallM X (.builtin "abs") (onL absL) := onL_of call_abs fun B Wx σ ρ W φ H M ds d xs Q I e r q => by
  unfold absL at e
  split at e
  · cases e
    obtain ⟨x, rfl, r1⟩ := rvs1 r
    cases r1
    exact ⟨_, rfl, ct_ok (M := M) I q (.int _)⟩
  · cases e
theorem cm_max (hc : X.calm = true := by rfl) : CallM X (.builtin "max") (onL maxL) := onL_of (call_max2 hc) fun B Wx σ ρ W φ H M ds d xs Q I e r q => by
  unfold maxL at e
  split at e
  · cases e
    obtain ⟨x, y, rfl, r1, r2⟩ := rvs2 r
    cases r1
    cases r2
    exact ⟨_, _, rfl, ct_ok (M := M) I q (.int _)⟩
  · cases e
theorem cm_min (hc : X.calm = true := by rfl) : CallM X (.builtin "min") (onL minL) := onL_of (call_min2 hc) fun B Wx σ ρ W φ H M ds d xs Q I e r q => by
  unfold minL at e
  split at e
  · cases e
    obtain ⟨x, y, rfl, r1, r2⟩ := rvs2 r
    cases r1
    cases r2
    exact ⟨_, _, rfl, ct_ok (M := M) I q (.int _)⟩
  · cases e
theorem cm_int : CallM X (.type "int") (onL intL) := onL_of call_int1 fun B Wx σ ρ W φ H M ds d xs Q I e r q => by
  unfold intL at e
  split at e
  · cases e
    obtain ⟨x, rfl, r1⟩ := rvs1 r
    cases r1
    exact .inl ⟨_, rfl, ct_ok (M := M) I q (.int _)⟩
  · cases e
    obtain ⟨x, rfl, r1⟩ := rvs1 r
    cases r1
    exact .inr ⟨_, rfl, ct_ok (M := M) I q (.int _)⟩
  · cases e
theorem cm_str : CallM X (.type "str") (onL strL) := onL_of call_str_int fun B Wx σ ρ W φ H M ds d xs Q I e r q => by
  unfold strL at e
  split at e
  · split at e
    · rename_i hz
      cases e
      obtain ⟨x, rfl, r1⟩ := rvs1 r
      cases r1
      exact ⟨_, rfl, hz, ct_ok (M := M) I q (.str _)⟩
    · cases e
  · cases e
/-- len -/
def lenS : List S → Mh → REx S
  | [.v (.str z)], M => if z.length ≤ 16777216 then .ok (.v (.int z.length)) M else .bad
  | [s], M => (match seqS s M with
    | some ds => .ok (.v (.int ds.length)) M
    | none => .bad)
  | _, _ => .bad
theorem cm_len : CallM X (.builtin "len") lenS := callM_of call_len fun B Wx xs H Q ⟨σ, W, φ, ρ, M, ss, I, r, q⟩ => by
  cases r with
  | nil => exact q.elim
  | @cons s x ss xs r1 r2 =>
    cases r2 with
    | cons _ _ => cases s with
      | v d => cases d <;> exact q.elim
      | r n => exact q.elim
    | nil =>
      have fin : ∀ ds, seqS s M = some ds → Ct X.K B Wx σ ρ (RS X.K) W φ H (.ok (.v (.int ds.length)) M) Q → ∃ y n, [x] = [y] ∧ LenV X.K y H n ∧ Q (.int n) H := fun ds e q => by
        obtain ⟨a, vs, rfl, h1, h2⟩ := seqS_ok I r1 e
        refine ⟨_, vs.length, rfl, ?_, by rw [← h2.length]; exact ct_ok (M := M) I q (.int _)⟩
        rcases h1 with h1 | h1
        · exact .inl ⟨vs, h1, rfl⟩
        · exact .inr ⟨vs, h1, rfl⟩
      by_cases hs : ∃ z, s = .v (.str z)
      · obtain ⟨z, rfl⟩ := hs
        cases r1
        simp only [lenS] at q
        by_cases hz : z.length ≤ 16777216
        · rw [if_pos hz] at q
          exact ⟨_, _, rfl, ⟨by rw [sizeLine_eq]; exact hz, rfl⟩, ct_ok (M := M) I q (.int _)⟩
        · rw [if_neg hz] at q
          exact q.elim
      · have q2 : Ct X.K B Wx σ ρ (RS X.K) W φ H (match seqS s M with
          | some ds => .ok (.v (.int ds.length)) M
          | none => .bad) Q := by
          cases s with
          | r n => exact q
          | v d =>
            cases d with
            | str z => exact absurd ⟨z, rfl⟩ hs
            | _ => exact q
        cases e : seqS s M with
        | none =>
          simp only [e] at q2
          exact q2.elim
        | some ds =>
          simp only [e] at q2
          exact fin ds e q2
/-- lists of one kind -/
def blsD : List D → Option (List Bool)
  | [] => some []
  | .bl b :: r => (match blsD r with
    | some bs => some (b :: bs)
    | none => none)
  | _ => none
def intsD : List D → Option (List Int)
  | [] => some []
  | .int b :: r => (match intsD r with
    | some bs => some (b :: bs)
    | none => none)
  | _ => none
def strsD : List D → Option (List Str)
  | [] => some []
  | .str b :: r => (match strsD r with
    | some bs => some (b :: bs)
    | none => none)
  | _ => none
theorem blsD_ok {K : PySem.W.Frag} {W : Addr → Prop} {H : Hp} : ∀ {ds : List D} {bs : List Bool} {xs : List V}, blsD ds = some bs → RVs K W H ds xs → xs = bs.map V.bl
  | [], _, _, e, .nil => by
    cases e
    rfl
  | d :: ds, bs, _, e, .cons a r => by
    cases a with
    | bl b =>
      simp only [blsD] at e
      cases h : blsD ds with
      | none => simp only [h] at e; cases e
      | some bs' =>
        simp only [h] at e
        cases e
        rw [blsD_ok h r]
        rfl
    | _ => cases e
theorem intsD_ok {K : PySem.W.Frag} {W : Addr → Prop} {H : Hp} : ∀ {ds : List D} {bs : List Int} {xs : List V}, intsD ds = some bs → RVs K W H ds xs → xs = bs.map V.int
  | [], _, _, e, .nil => by
    cases e
    rfl
  | d :: ds, bs, _, e, .cons a r => by
    cases a with
    | int b =>
      simp only [intsD] at e
      cases h : intsD ds with
      | none => simp only [h] at e; cases e
      | some bs' =>
        simp only [h] at e
        cases e
        rw [intsD_ok h r]
        rfl
    | _ => cases e
theorem strsD_ok {K : PySem.W.Frag} {W : Addr → Prop} {H : Hp} : ∀ {ds : List D} {bs : List Str} {xs : List V}, strsD ds = some bs → RVs K W H ds xs → xs = bs.map V.str
  | [], _, _, e, .nil => by
    cases e
    rfl
  | d :: ds, bs, _, e, .cons a r => by
    cases a with
    | str b =>
      simp only [strsD] at e
      cases h : strsD ds with
      | none => simp only [h] at e; cases e
      | some bs' =>
        simp only [h] at e
        cases e
        rw [strsD_ok h r]
        rfl
    | _ => cases e
theorem blsD_map (bs : List Bool) : blsD (bs.map D.bl) = some bs := by
  induction bs with
  | nil => rfl
  | cons b bs ih => simp only [List.map_cons, blsD, ih]
theorem intsD_map (bs : List Int) : intsD (bs.map D.int) = some bs := by
  induction bs with
  | nil => rfl
  | cons b bs ih => simp only [List.map_cons, intsD, ih]
theorem strsD_map (bs : List Str) : strsD (bs.map D.str) = some bs := by
  induction bs with
  | nil => rfl
  | cons b bs ih => simp only [List.map_cons, strsD, ih]
/-- all, any, sum of one list -/
def oneL (f : List D → Option D) : List S → Mh → REx S
  | [s], M => (match lstS s M with
    | some ds => eD M (f ds)
    | none => .bad)
  | _, _ => .bad
theorem oneL_of {f : Value} {g : List D → Option D} {r : List V → Hp → VK → Prop} (h : CallR X f r)
    (hr : ∀ B Wx σ ρ W φ H M ds d a vs Q, SI X.K B W φ ρ M σ H → g ds = some d → SqL X.K H a vs → RVs X.K W H ds vs → Ct X.K B Wx σ ρ (RS X.K) W φ H (.ok (.v d) M) Q → r [.ref a] H Q) : CallM X f (oneL g) :=
  callM_of h fun B Wx xs H Q ⟨σ, W, φ, ρ, M, ss, I, r1, q⟩ => by
    cases r1 with
    | nil => exact q.elim
    | @cons s x ss xs r1 r2 =>
      cases r2 with
      | cons _ _ => exact q.elim
      | nil =>
        simp only [oneL] at q
        cases e : lstS s M with
        | none =>
          simp only [e] at q
          exact q.elim
        | some ds =>
          simp only [e] at q
          obtain ⟨d, e2, q2⟩ := eD_some q
          obtain ⟨a, vs, rfl, h1, h2⟩ := lstS_ok I r1 e
          exact hr B Wx σ ρ W φ H M ds d a vs Q I e2 h1 h2 q2
def allD (ds : List D) : Option D := match blsD ds with
  | some bs => some (.bl (bs.all id))
  | none => none
def anyD (ds : List D) : Option D := match blsD ds with
  | some bs => some (.bl (bs.any id))
  | none => none
def sumD (ds : List D) : Option D := match intsD ds with
  | some bs => some (.int bs.sum)
  | none => none
theorem cm_all (hc : X.calm = true := by rfl) : CallM X (.builtin "all") (oneL allD) := oneL_of (cr_all hc) fun B Wx σ ρ W φ H M ds d a vs Q I e h1 h2 q => by
  unfold allD at e
  cases g : blsD ds with
  | none => simp only [g] at e; cases e
  | some bs =>
    simp only [g] at e
    cases e
    exact ⟨a, bs, rfl, by rw [← blsD_ok g h2]; exact h1, ct_ok (M := M) I q (.bl _)⟩
theorem cm_any (hc : X.calm = true := by rfl) : CallM X (.builtin "any") (oneL anyD) := oneL_of (cr_any hc) fun B Wx σ ρ W φ H M ds d a vs Q I e h1 h2 q => by
  unfold anyD at e
  cases g : blsD ds with
  | none => simp only [g] at e; cases e
  | some bs =>
    simp only [g] at e
    cases e
    exact ⟨a, bs, rfl, by rw [← blsD_ok g h2]; exact h1, ct_ok (M := M) I q (.bl _)⟩
theorem cm_sum (hc : X.calm = true := by rfl) : CallM X (.builtin "sum") (oneL sumD) := oneL_of (cr_sum hc) fun B Wx σ ρ W φ H M ds d a vs Q I e h1 h2 q => by
  unfold sumD at e
  cases g : intsD ds with
  | none => simp only [g] at e; cases e
  | some bs =>
    simp only [g] at e
    cases e
    exact ⟨a, bs, rfl, by rw [← intsD_ok g h2]; exact h1, ct_ok (M := M) I q (.int _)⟩
/-- tuple(x), list(x) -/
def tupS : List S → Mh → REx S
  | [s], M => (match seqS s M with
    | some ds => .ok (.v (.tup ds)) M
    | none => .bad)
  | _, _ => .bad
theorem cm_tuple : CallM X (.type "tuple") tupS := callM_of call_tuple_of fun B Wx xs H Q ⟨σ, W, φ, ρ, M, ss, I, r1, q⟩ => by
  cases r1 with
  | nil => exact q.elim
  | @cons s x ss xs r1 r2 =>
    cases r2 with
    | cons _ _ => exact q.elim
    | nil =>
      simp only [tupS] at q
      cases e : seqS s M with
      | none =>
        simp only [e] at q
        exact q.elim
      | some ds =>
        simp only [e] at q
        by_cases hs : ∃ es, s = .v (.tup es)
        · obtain ⟨es, rfl⟩ := hs
          cases e
          cases r1 with
          | tup h1 h2 => exact ⟨_, _, rfl, .inr ⟨h1.sq, ct_ok (M := M) I q (.tup h1 h2)⟩⟩
        · have e2 : lstS s M = some ds := by
            cases s with
            | r n => exact e
            | v d =>
              cases d with
              | tup es => exact absurd ⟨es, rfl⟩ hs
              | _ => exact e
          obtain ⟨a, vs, rfl, h1, h2⟩ := lstS_ok I r1 e2
          exact ⟨a, vs, rfl, .inl ⟨h1, fun p hp => q W φ _ _ (I.new hp) (I.stbNew hp) (I.newTup hp h2)⟩⟩
def lisS : List S → Mh → Option (List D)
  | [s], M => seqS s M
  | _, _ => none
theorem cf_list : CallF X (.type "list") lisS := fun B Wx pins s σ H xs us Q I rx ⟨σ', W, φ, ρ, M, ss, ds, J, r1, e, q⟩ => by
  refine call_list_of pins s σ H xs us Q I rx ?_
  cases r1 with
  | nil => cases e
  | @cons s x ss xs r1 r2 =>
    cases r2 with
    | cons _ _ => cases e
    | nil =>
      obtain ⟨a, vs, rfl, h1, h2⟩ := seqS_ok J r1 e
      exact ⟨a, vs, rfl, h1, fun l hl => ctF_ok (M := M) J q hl h2⟩
/-- list(range(n)) -/
theorem rgV_rng {K : PySem.W.Frag} {W : Addr → Prop} {H : Hp} (a b : Int) : RVs K W H (rngD a (b - a).toNat) (rgV a b) := by
  unfold rngD rgV
  generalize (b - a).toNat = n
  induction List.range n with
  | nil => exact .nil
  | cons i l ih => exact .cons (.int _) ih
def eLRg1 (a : Em S) : Em (List D) := eb a fun s => match s with
  | .v (.int n) => if -4294967296 ≤ n ∧ n ≤ 16777216 then er (rngD 0 (n - 0).toNat) else eX
  | _ => eX
theorem mf_listRg1 {a : Expr} {ea : Em S} {p p2 pos pos2 : Pos} (hg : Gl X "list") (hm : X.mg "list" = none) (hg2 : Gl X "range") (hm2 : X.mg "range" = none) (ha : ME X Wx a ea) (hc : X.calm = true := by rfl)
    (na : starEach [a] X.env = (false, eval a X.env) :: starEach [] X.env := by rfl) (na2 : starEach [.Call (.Name "range" p2) [a] [] pos2] X.env = (false, eval (.Call (.Name "range" p2) [a] [] pos2) X.env) :: starEach [] X.env := by rfl) :
    MF X Wx (.Call (.Name "list" p) [.Call (.Name "range" p2) [a] [] pos2] [] pos) (eLRg1 ea) := fun B =>
  pe_imp (pe_listRg hc hg hm (prg_1 hg2 hm2 (ha B) na) na2) fun σ H Q ⟨W, φ, ρ, M, I, h⟩ => by
    refine tl_mono (ct_bindF (R := RS X.K) I h) fun x H1 ⟨W1, φ1, M1, s, I1, st1, r1, h1⟩ => ?_
    cases s with
    | r n => exact h1.elim
    | v d =>
      cases d with
      | int n =>
        cases r1
        by_cases hb : -4294967296 ≤ n ∧ n ≤ 16777216
        · simp only [if_pos hb] at h1
          exact ⟨n, rfl, ⟨by omega, by omega, by omega, by omega, by omega⟩, fun q hq => ctF_ok (M := M1) I1 h1 hq (rgV_rng 0 n)⟩
        · simp only [if_neg hb] at h1
          exact h1.elim
      | _ => exact h1.elim
/-! ## isinstance -/
inductive Ty where
  | int | bool | str | list | tuple
def Ty.name : Ty → String
  | .int => "int" | .bool => "bool" | .str => "str" | .list => "list" | .tuple => "tuple"
def isTy : Ty → D → Option Bool
  | _, .adr _ => none
  | .int, .int _ => some true
  | .int, .bl _ => some true
  | .bool, .bl _ => some true
  | .str, .str _ => some true
  | .list, .lst _ => some true
  | .tuple, .tup _ => some true
  | _, _ => some false
def eIsi (t : Ty) (a : Em S) : Em S := eb a fun s => match s with
  | .v d => (match isTy t d with
    | some b => er (.v (.bl b))
    | none => eX)
  | _ => eX
def tyD : D → String
  | .non => "NoneType" | .bl _ => "bool" | .int _ => "int" | .str _ => "str" | .tup _ => "tuple" | .lst _ => "list" | .dct _ => "dict" | .adr _ => ""
theorem tyD_ok {K : PySem.W.Frag} {W : Addr → Prop} {H : Hp} {d : D} {x : V} (r : RV K W H d x) (n : ∀ a, d ≠ .adr a) : TyX K H x (.type (tyD d)) := by
  cases r with
  | non => exact .base .non
  | bl b => exact .base (.bl b)
  | int i => exact .base (.int i)
  | str s => exact .base (.str s)
  | adr a => exact absurd rfl (n a)
  | tup h _ =>
    rcases h with ⟨_, h | ⟨o, h⟩⟩ | ⟨o, ar, ep, h1, h2, _⟩
    · exact .base (.tup h)
    · exact .fTuple h
    · exact .kTuple h1 h2
  | lst h _ =>
    rcases h with ⟨_, h | ⟨o, h⟩⟩ | ⟨o, ar, ep, h1, h2, _⟩
    · exact .base (.lst h)
    · exact .base (.frz h)
    · exact .kList h1 h2
  | dK _ h => exact .base (.dK h)
  | dT _ h => exact .base (.dT h)
theorem isTy_kit {K : PySem.W.Frag} {t : Ty} {d : D} {b : Bool} (e : isTy t d = some b) : (∀ a, d ≠ .adr a) ∧ PySem.W.kitOne K (.type (tyD d)) (.type t.name) = some b := by
  refine ⟨fun a z => (by rw [z] at e; cases t <;> cases e), kit_ty ?_⟩
  cases t <;> cases d <;> first
    | (cases e; done)
    | (cases e; simp only [tyD]; decide +kernel)
theorem me_isi (t : Ty) {a : Expr} {ea : Em S} {y : Str} {p p2 pos : Pos} (hg : Gl X "isinstance") (hm : X.mg "isinstance" = none) (hy : Gl X y) (hy2 : X.mg y = none) (hv : bootBuiltins y = some (.type t.name)) (ha : ME X Wx a ea) (hn : y ≠ "__name__" := by decide) (hdb : (y == ("__debug__" : Str)) = false := by decide)
    (h1 : starEach [a, .Name y p2] X.env = (false, eval a X.env) :: starEach [.Name y p2] X.env := by rfl) (h2 : starEach [.Name y p2] X.env = (false, eval (.Name y p2) X.env) :: starEach [] X.env := by rfl) (hpl : (backTo pos (starEach [.Name y p2] X.env)).any (·.1) = false := by rfl) :
    ME X Wx (.Call (.Name "isinstance" p) [a, .Name y p2] [] pos) (eIsi t ea) := fun B =>
  pe_imp (pe_callB call_isi hg hm (by decide +kernel) (pa_cons (ha B) (pa_cons (pe_bltn (v := .ty t.name) hy hy2 hv rfl hn hdb) pa_nil h2) h1) (by decide) (by decide) h1 hpl) fun σ H Q ⟨W, φ, ρ, M, I, h⟩ => by
    refine tl_mono (ct_bind (R := RS X.K) I h) fun x H1 ⟨W1, φ1, M1, s, I1, st1, r1, h1⟩ => ?_
    cases s with
    | r n => exact h1.elim
    | v d =>
      cases e : isTy t d with
      | none =>
        simp only [e] at h1
        exact h1.elim
      | some b =>
        simp only [e] at h1
        obtain ⟨n1, k1⟩ := isTy_kit (K := X.K) e
        exact ⟨x, .ty t.name, _, _, b, rfl, .ty _, tyD_ok r1 n1, k1, ct_ok (M := M1) I1 h1 (.bl _)⟩
end
end Md
end
section
namespace Md
open PySem PySem.Spec PyProof.Rows L2
/-! ## the head -/
abbrev AlM : Type := He.AlD × Bool
def obsM (n : Nat) (fa : List He.Fa) (fn : List He.DefD) (ex : PySem.W.Frag → Bool) (g : Addr → Option Obj) : AlM := (He.obsD fa fn (He.frG g (He.asD g n)), ex (He.frG g (He.asD g n)))
def hookM (n : Nat) (fa : List He.Fa) (fn : List He.DefD) (ex : PySem.W.Frag → Bool) : PySem.W.Hook where
  α := AlM
  obs := fun s => obsM n fa fn ex s.heap.get?
  val := fun _ => (He.valD fn, true)
  says := fun _ h => ∃ K : PySem.W.Frag, K.In h ∧ He.SaysD fa fn K ∧ ex K = true
  of := fun _ _ e => ⟨_, He.frG_in, congrArg (fun z : AlM => z.1) e, congrArg (fun z : AlM => z.2) e⟩
  keeps := fun _ _ _ ⟨K, hK, c⟩ k => ⟨K, PySem.W.Frag.In.keeps hK k, c⟩
theorem obsM_eq {n : Nat} {fa : List He.Fa} {fn : List He.DefD} {ex : PySem.W.Frag → Bool} {g : Addr → Option Obj} {s : Shared} (h : ∀ a, g a = s.heap.get? a) : obsM n fa fn ex g = (hookM n fa fn ex).obs s := by
  have e : g = s.heap.get? := funext h
  rw [e] <;> rfl
/-! ## a law's end -/
section
variable {P : Program} {w : World} {K : PySem.W.Frag} {mg : Str → Option Value} {k : Nat} {fa a : Addr} {fd : FuncData} {x : Str} {sp : Sp} {st : Shared}
/-- from a tracked heap that tells the script, nothing else -/
theorem law_from {U : Hp} (inK : K.In st.heap) (ns1 : st.heap.Ns mainGlobals mg) (bl : ∃ mb, st.heap.Ns builtinsNs mb ∧ ∀ x : Str, x ≠ "__name__" → mb x = bootBuiltins x) (nl : st.heap.NoLimit) (bare : AllBare st.gens)
    (room : RoomG k callerA) (F : ∀ base : Heap, K.In base → base.Ns mainGlobals mg → FnG P w K mg base k fa fd [x] sp) (bnd : ∀ (s : Shared) (u : Value), BindsTo s fd ⟨[u], []⟩ [(x, u)])
    (only : Only U) (good : HOk P w U st.heap) (one : ∀ b, U b ≠ none → b = a) (out : U a ≠ none → K.lookup a = none) (nd : ∀ o, st.heap.get? a = some o → ∀ es ep, o.data ≠ .dict es ep)
    (told : sp [.ref a] U (fun v _ => v = .bl true) fun _ _ _ => False) :
    codeAny (model P w) callerA (.call (.ref fa) ⟨[.ref a], []⟩) (fun r s' => r = .ok (.ret (.bool true)) ∧ OldK st.heap s'.heap ∧ s'.os = st.os ∧ AllBare s'.gens) st := by
  have hid : ∀ {b : Addr} {o : Obj}, st.heap.get? b = some o → (U b ≠ none → False) → (hidT st.heap U).get? b = some o := fun {b o} e h => hidT_get e (by
    cases q : U b with
    | none => rfl
    | some u => exact (h (by rw [q]; exact fun z => nomatch z)).elim)
  have names : ∀ {b : Addr} {m : Str → Option Value}, st.heap.Ns b m → (hidT st.heap U).Ns b m := fun {b m} ⟨o, es, ep, e, d, r⟩ =>
    ⟨o, es, ep, hid e fun z => nd o (by rw [← one b z]; exact e) es ep d, d, r⟩
  have kin : K.In (hidT st.heap U) := fun b o e => hid (inK b o e) fun z => by
    have q := one b z
    rw [q] at e z
    rw [out z] at e
    cases e
  obtain ⟨mb, b1, b2⟩ := bl
  obtain ⟨mc, c1, c2⟩ := nl
  have env : Env0 P w K mg (hidT st.heap U) callerA [] st U := ⟨rfl, ⟨kin, names ns1, ⟨mb, names b1, b2⟩, ⟨mc, names c1, c2⟩⟩, fun b o e => of_hidT e, Nat.le_of_eq (hidT_size _ _), trivial, fun b hb => (by cases hb), good, bare⟩
  refine codeAny_mono ((F _ kin (names ns1)).go callerA [] st U ⟨[.ref a], []⟩ [.ref a] [.ref a] _ _ room env (bnd st (.ref a)) (.cons rfl .nil) told) fun r s' h => ?_
  cases r with
  | error e =>
    obtain ⟨_, _, _, _, _, _, _, _, _, _, _, _, no⟩ := h
    exact no.elim
  | ok fl =>
    cases fl with
    | ret u =>
      obtain ⟨v, U', os, bare', un, good', rv, rfl⟩ := h
      cases (show u = Value.bool true from rv)
      refine ⟨rfl, OldK.of_keep fun b o e => ?_, os, bare'⟩
      cases q : U b with
      | none => exact un.keep b o e q (fun z => by cases z) (fun z => by cases z)
      | some u =>
        rcases only b with z | ⟨ob, xs, z⟩
        · rw [q] at z
          cases z
        · obtain ⟨e1, _⟩ := good b _ z
          obtain ⟨e2, _⟩ := good' b _ (un.frzs b ob _ z)
          rw [e] at e1
          cases e1
          exact e2
    | next => exact h.elim
    | brk => exact h.elim
    | cont => exact h.elim
theorem law_go {vs : List Value} {ns : List Int} (inK : K.In st.heap) (ns1 : st.heap.Ns mainGlobals mg) (bl : ∃ mb, st.heap.Ns builtinsNs mb ∧ ∀ x : Str, x ≠ "__name__" → mb x = bootBuiltins x) (nl : st.heap.NoLimit) (bare : AllBare st.gens)
    (room : RoomG k callerA) (F : ∀ base : Heap, K.In base → base.Ns mainGlobals mg → FnG P w K mg base k fa fd [x] sp) (bnd : ∀ (s : Shared) (u : Value), BindsTo s fd ⟨[u], []⟩ [(x, u)])
    (scr : st.heap.get? a = some { cls := .type "list", data := .seq vs.toArray }) (arI : IntsAre vs ns) (few : ns.length ≤ sizeLine) (told : ∀ U : Hp, Only U → SqL K U a (ns.map V.int) → sp [.ref a] U (fun v _ => v = .bl true) fun _ _ _ => False) :
    codeAny (model P w) callerA (.call (.ref fa) ⟨[.ref a], []⟩) (fun r s' => r = .ok (.ret (.bool true)) ∧ OldK st.heap s'.heap ∧ s'.os = st.os ∧ AllBare s'.gens) st := by
  have nd : ∀ o, st.heap.get? a = some o → ∀ es ep, o.data ≠ .dict es ep := fun o e es ep d => by
    rw [scr] at e
    cases e
    cases d
  cases lk : K.lookup a with
  | some o =>
    have e := inK a o lk
    rw [scr] at e
    cases e
    have sq : SqL K (fun _ => none) a (ns.map V.int) := .inr ⟨_, vs.toArray, _, lk, rfl, rfl, rfl, by rw [List.size_toArray, arI.length]; exact few, by simpa using vals_ints arI⟩
    exact law_from (U := fun _ => none) inK ns1 bl nl bare room F bnd (fun _ => .inl rfl) (fun b u z => by cases (show (none : Option HO) = some u from z)) (fun b z => (z rfl).elim) (fun z => (z rfl).elim) nd (told _ (fun _ => .inl rfl) sq)
  | none =>
    let U : Hp := fun b => if b = a then some (.frz { cls := .type "list", data := .seq vs.toArray } (.lst (ns.map V.int))) else none
    have at_a : U a = some (.frz { cls := .type "list", data := .seq vs.toArray } (.lst (ns.map V.int))) := if_pos rfl
    have off : ∀ b, b ≠ a → U b = none := fun b h => if_neg h
    have only : Only U := fun b => (Classical.em (b = a)).elim (fun h => .inr ⟨_, _, (congrArg U h).trans at_a⟩) fun h => .inl (off b h)
    have one : ∀ b, U b ≠ none → b = a := fun b z => (Classical.em (b = a)).elim id fun h => (z (off b h)).elim
    refine law_from (U := U) inK ns1 bl nl bare room F bnd only (fun b u z => ?_) one (fun _ => lk) nd (told U only (.inl (.inr ⟨_, at_a⟩)))
    have q := one b (by rw [z]; exact fun y => nomatch y)
    subst q
    rw [at_a] at z
    cases z
    exact ⟨scr, by rw [List.length_map]; exact few, vs, _, vals_ints arI, scr⟩
end
theorem walk_M {l : PySem.W.OpenLaw} {n k : Nat} {q : Program} {loose : List Str} {XP : (Str → Option Value) → Heap → Prop} {YP : World → Heap → Prop} {d : DefRec} {x : Str}
    (hn : l.most = some n) (hn2 : n ≤ sizeLine) (hdf : d.params.defaults = []) (hr : RoomG k callerA)
    (F : ∀ (w : World) (mg : Str → Option Value) (fa : Addr) (h : Heap), YP w h → h.Ns mainGlobals mg → mg d.name = some (.ref fa) →
      ∃ (K : PySem.W.Frag) (fd : FuncData) (sp : Sp), K.In h ∧ (∀ (s : Shared) (u : Value), BindsTo s fd ⟨[u], []⟩ [(x, u)]) ∧
        (∀ (H : Hp) (a : Addr) (ns : List Int), ns.length ≤ n → (∀ z ∈ ns, Builtin.Int.intBits z ≤ 1048576) → Only H → SqL K H a (ns.map V.int) → sp [.ref a] H (fun v _ => v = .bl true) fun _ _ _ => False) ∧
        ∀ base : Heap, K.In base → base.Ns mainGlobals mg → FnG l.prog w K mg base k fa fd [x] sp) :
    PySem.W.WalkO q loose XP YP l.row.toRowW d [] (fun f vs => PySem.call f vs) := by
  refine Att.attach_callB hn hdf fun w s₀ s₁ mg mb fa o pm cd doc a vs ns G Y ho hd hcd hmg hobj hints hlen hbits hg => ?_
  obtain ⟨K, fd, sp, KX, hb, hsp, hF⟩ := F w mg fa _ Y G.T.g hmg
  exact law_go KX G.T.g ⟨mb, G.T.b, G.T.builtins⟩ G.T.nolimit (.of_eq hg) hr hF hb hobj hints (Nat.le_trans hlen hn2) fun U hO hS => hsp U a ns hlen hbits hO hS
/-! ## facts by names, contracts by names -/
structure Fx (fa : List He.Fa) (fn : List He.DefD) (ex : PySem.W.Frag → Bool) (K : PySem.W.Frag) (mg : Str → Option Value) : Prop where
  c : He.SaysD fa fn K
  x : ex K = true
  h : ∃ h : Heap, K.In h ∧ h.Ns mainGlobals mg
section
variable {fa : List He.Fa} {fn : List He.DefD} {ex : PySem.W.Frag → Bool} {K : PySem.W.Frag} {mg : Str → Option Value}
theorem Fx.glo (Y : Fx fa fn ex K mg) (i : Nat) {x : Str} (h : fa[i]? = some (.glo x) := by rfl) : mg x = some (.ref (He.ga K x)) :=
  Y.h.elim fun _ z => He.glo_ok z.1 z.2 (Y.c.fact i h)
theorem Fx.free (Y : Fx fa fn ex K mg) (i : Nat) {x : Str} (h : fa[i]? = some (.free x) := by rfl) : mg x = none :=
  Y.h.elim fun _ z => He.free_ok z.1 z.2 (Y.c.fact i h)
theorem Fx.int (Y : Fx fa fn ex K mg) (i : Nat) {x : Str} {n : Int} (h : fa[i]? = some (.int x n) := by rfl) : ∃ t, mg x = some (.int n t) :=
  Y.h.elim fun _ z => He.int_ok z.1 z.2 (Y.c.fact i h)
theorem Fx.str (Y : Fx fa fn ex K mg) (i : Nat) {x n : Str} (h : fa[i]? = some (.str x n) := by rfl) : ∃ t, mg x = some (.str n t) :=
  Y.h.elim fun _ z => He.str_ok z.1 z.2 (Y.c.fact i h)
end
section
variable {P : Program} {w : World} {K : PySem.W.Frag} {mg : Str → Option Value} {base : Heap} {fa : List He.Fa} {fn : List He.DefD} {ex : PySem.W.Frag → Bool}
/-- a def's datum says its mirror -/
theorem fnM_of {d : He.DefD} {x : Str} {N ps : List Str} {k lv : Nat} {xt : Xt} {sm : Sm} (Y : Fx fa fn ex K mg) (i j : Nat) (hi : fn[i]? = some d := by rfl) (hj : fa[j]? = some (.glo x) := by rfl) (hat : d.at_ = (x, none) := by rfl) (hd : d.dfl = [] := by rfl)
    (Sc : FnScope N ps d.scope) (hx : XtOk k xt) (hb : ∀ (kV doc pm : Value) (an : Option Addr) (cdv ct : Value) (us : List Value), us.length = ps.length → bindArgs (PySem.W.fnOf d.name d.qual d.params d.body d.scope .none kV doc pm an cdv ct) ⟨us, []⟩ = pure (ps.zip us))
    (h : ∀ (f : Addr) (cdv : Value) (A : Around) (outer : List Env) (s : Shared) (H : Hp) (E : XK), RoomG lv (A.deeper (envOfC d.qual d.scope s.heap.objs.size f cdv)) →
      MSs (cxOf (L2.CX P w) P w K mg base N d.qual d.scope f cdv A outer s H E) (fun cls d _ H => E cls d H) k d.body sm) : FnM P w K mg base (lv + 1) x (run k ps.length N.length xt sm) := by
  obtain ⟨fd, F⟩ := Y.c.def_ i hi
  have ef : He.fAd K d.at_ = He.ga K x := by rw [hat] <;> rfl
  have ed : d.dvs K = [] := by
    unfold He.DefD.dvs
    rw [hd] <;> rfl
  rw [ed] at F
  refine ⟨_, fd, ps, _, [], [], [], fn_ok F Sc hx (h (He.fAd K d.at_)), ?_, F.kp, F.bindsN hb, .nil, fun _ _ => .nil, fun ss M => by rw [List.map_nil, List.append_nil]⟩
  rw [ef]
  exact Y.glo j hj
/-- f(.., k = v): p puts the written values in the parameters' order -/
def sel {α : Type} (p : List Nat) (l : List α) : List α := p.filterMap fun i => l[i]?
structure FnK (P : Program) (w : World) (K : PySem.W.Frag) (mg : Str → Option Value) (base : Heap) (lv : Nat) (x : Str) (n : Nat) (ks : List Str) (p : List Nat) (m : Mf) : Prop where
  ex : ∃ (f : Addr) (fd : FuncData) (ps : List Str), FnG P w K mg base lv f fd ps (spM K m) ∧ mg x = some (.ref f) ∧ PySem.W.keepIn K (.ref f) = true ∧
    ∀ (s : Shared) (us ws : List Value), K.In s.heap → us.length = n → ws.length = ks.length → BindsTo s fd ⟨us, ks.zip ws⟩ (ps.zip (sel p (us ++ ws)))
theorem fnK_of {d : He.DefD} {x : Str} {N ps ks : List Str} {k lv n : Nat} {p : List Nat} {xt : Xt} {sm : Sm} (Y : Fx fa fn ex K mg) (i j : Nat) (hi : fn[i]? = some d := by rfl) (hj : fa[j]? = some (.glo x) := by rfl) (hat : d.at_ = (x, none) := by rfl) (hd : d.dfl = [] := by rfl)
    (Sc : FnScope N ps d.scope) (hx : XtOk k xt) (hb : ∀ (kV doc pm : Value) (an : Option Addr) (cdv ct : Value) (us ws : List Value), us.length = n → ws.length = ks.length → bindArgs (PySem.W.fnOf d.name d.qual d.params d.body d.scope .none kV doc pm an cdv ct) ⟨us, ks.zip ws⟩ = pure (ps.zip (sel p (us ++ ws))))
    (h : ∀ (f : Addr) (cdv : Value) (A : Around) (outer : List Env) (s : Shared) (H : Hp) (E : XK), RoomG lv (A.deeper (envOfC d.qual d.scope s.heap.objs.size f cdv)) →
      MSs (cxOf (L2.CX P w) P w K mg base N d.qual d.scope f cdv A outer s H E) (fun cls d _ H => E cls d H) k d.body sm) : FnK P w K mg base (lv + 1) x n ks p (run k ps.length N.length xt sm) := by
  obtain ⟨fd, F⟩ := Y.c.def_ i hi
  have ef : He.fAd K d.at_ = He.ga K x := by rw [hat] <;> rfl
  have ed : d.dvs K = [] := by
    unfold He.DefD.dvs
    rw [hd] <;> rfl
  rw [ed] at F
  refine ⟨_, fd, ps, fn_ok F Sc hx (h (He.fAd K d.at_)), ?_, F.kp, fun s us ws _ l1 l2 => ?_⟩
  · rw [ef]
    exact Y.glo j hj
  · obtain ⟨oc, od, dV, kV, doc, pm, an, cdv, ct, osl, rfl, _, _, hD, _⟩ := F.ex
    rcases hD with ⟨_, rfl⟩ | ⟨e, _⟩
    · exact .of_eq (hb kV doc pm an cdv ct us ws l1 l2)
    · exact absurd rfl e
theorem FnK.mono {lv lv' n : Nat} {x : Str} {ks : List Str} {p : List Nat} {m : Mf} (F : FnK P w K mg base lv x n ks p m) (h : lv ≤ lv') : FnK P w K mg base lv' x n ks p m := by
  obtain ⟨f, fd, ps, h1, h2⟩ := F.ex
  exact ⟨f, fd, ps, h1.mono h, h2⟩
end
theorem tk0 {X : Cx} : Takes X W0x := fun _ _ ⟨_, _, _, _, _, _, _, _, _, _, _, _, _, _, _, _, z⟩ => z.elim
theorem tkF {P : Program} {w : World} {K : PySem.W.Frag} {mg : Str → Option Value} {base : Heap} {N : List Str} {qual : Str} {scope : Scope} {f : Addr} {cd : Value} {A : Around} {outer : List Env} {s : Shared} {H : Hp} {E : XK} :
    Takes (cxOf (L2.CX P w) P w K mg base N qual scope f cd A outer s H E) (fun cls d _ H => E cls d H) := takes_of rfl rfl rfl rfl
theorem poF {P : Program} {w : World} {K : PySem.W.Frag} {mg : Str → Option Value} {base : Heap} {N : List Str} {qual : Str} {scope : Scope} {f : Addr} {cd : Value} {A : Around} {outer : List Env} {s : Shared} {H : Hp} {E : XK} :
    PassesOwn (model P w) (cxOf (L2.CX P w) P w K mg base N qual scope f cd A outer s H E).A (cxOf (L2.CX P w) P w K mg base N qual scope f cd A outer s H E).env (cxOf (L2.CX P w) P w K mg base N qual scope f cd A outer s H E).xe := passes_of rfl
end Md
end
section
namespace Md
open PySem PySem.Spec PyProof.Rows L2

/-! ## an own list read as data -/
def rdL (f : S → Option D) : List S → Option (List D)
  | [] => some []
  | s :: ss => (match f s with
    | some d => (match rdL f ss with
      | some ds => some (d :: ds)
      | none => none)
    | none => none)
def rdS : Nat → Mh → S → Option D
  | _, _, .v d => some d
  | 0, _, .r _ => none
  | n + 1, M, .r k => (match M[k]? with
    | some (some (.lst xs)) => (match rdL (rdS n M) xs with
      | some ds => some (.lst ds)
      | none => none)
    | _ => none)
/-- what is neither own nor being made -/
def offW (W : Addr → Prop) (φ : List (Option Addr)) : Addr → Prop := fun a => W a ∧ ∀ n : Nat, φ[n]? ≠ some (some a)
section
variable {K : PySem.W.Frag} {B : Bs} {W : Addr → Prop} {φ : List (Option Addr)} {ρ : Rho} {M : Mh} {σ : Sg} {H : Hp}
theorem rdL_ok {f : S → Option D} {W' : Addr → Prop} (hf : ∀ s d x, f s = some d → RS K W φ H s x → RV K W' H d x) : ∀ {ss : List S} {ds : List D} {xs : List V}, rdL f ss = some ds → RSs K W φ H ss xs → RVs K W' H ds xs
  | [], _, _, e, .nil => by
    cases e
    exact .nil
  | s :: ss, _, _, e, .cons a r => by
    simp only [rdL] at e
    cases h1 : f s with
    | none =>
      rw [h1] at e
      cases e
    | some d =>
      rw [h1] at e
      cases h2 : rdL f ss with
      | none =>
        rw [h2] at e
        cases e
      | some ds =>
        rw [h2] at e
        cases e
        exact .cons (hf _ _ _ h1 a) (rdL_ok hf h2 r)
theorem rd_ok (I : SI K B W φ ρ M σ H) : ∀ (n : Nat) {s : S} {d : D} {x : V}, rdS n M s = some d → RS K W φ H s x → RV K (offW W φ) H d x
  | 0, .v d, _, _, e, r => by
    cases e
    exact RV.lessW (fun a h => h.1) r
  | _ + 1, .v d, _, _, e, r => by
    cases e
    exact RV.lessW (fun a h => h.1) r
  | 0, .r k, _, _, e, r => by cases e
  | n + 1, .r k, d, x, e, r => by
    simp only [rdS] at e
    cases h : M[k]? with
    | none =>
      rw [h] at e
      cases e
    | some o =>
      rw [h] at e
      cases o with
      | none => cases e
      | some o =>
        cases o with
        | lst xs =>
          simp only at e
          cases h2 : rdL (rdS n M) xs with
          | none =>
            rw [h2] at e
            cases e
          | some ds =>
            rw [h2] at e
            cases e
            obtain ⟨a, ho, ha, hH, ro⟩ := I.obj k _ h
            obtain ⟨y, hy, hx⟩ := r
            rw [ha] at hy
            cases hy
            rw [hx a rfl]
            cases ho with
            | lst vs => exact .lst (.inl ⟨fun z => z.2 k ha, .inl hH⟩) (rdL_ok (fun s d x e r => rd_ok I n e r) h2 ro)
            | _ => exact ro.elim
        | dct _ => cases e
        | ins _ _ => cases e
end
/-- of data that is read, scalars come -/
def onR (f : D → D → Option Bool) (s t : S) (M : Mh) : REx S := match rdS 4 M s, rdS 4 M t with
  | some a, some b => (match f a b with
    | some c => .ok (.v (.bl c)) M
    | none => .bad)
  | _, _ => .bad
def eqR (a b : D) : Option Bool := if gd 40 a = true ∧ gd 40 b = true then some (eqvD a b) else none
def neR (a b : D) : Option Bool := if gd 40 a = true ∧ gd 40 b = true then some (!eqvD a b) else none
section
variable {X : Cx} {Wx : WX}
theorem onR_of {f : Value → Value → Sem Value} {g : D → D → Option Bool} {r : R2} (h : OpR X f r)
    (hr : ∀ (W : Addr → Prop) H a b c x y Q, g a b = some c → RV X.K W H a x → RV X.K W H b y → Q (.bl c) H → r x y H Q) : OpM X f (onR g) := by
  refine opM_of h fun B Wx x y H Q ⟨σ, W, φ, ρ, M, s, t, I, r1, r2, q⟩ => ?_
  unfold onR at q
  cases e1 : rdS 4 M s with
  | none =>
    rw [e1] at q
    exact q.elim
  | some a =>
    cases e2 : rdS 4 M t with
    | none =>
      rw [e1, e2] at q
      exact q.elim
    | some b =>
      rw [e1, e2] at q
      simp only at q
      cases e3 : g a b with
      | none =>
        rw [e3] at q
        exact q.elim
      | some c =>
        rw [e3] at q
        exact hr _ H a b c x y Q e3 (rd_ok I 4 e1 r1) (rd_ok I 4 e2 r2) (ct_ok (M := M) I q (.bl _))
theorem op_eqR (hu : X.A.units + 64 < cLine) : OpM X (compareOp .Eq) (onR eqR) := by
  refine onR_of (op_eqD hu) fun W H a b c x y Q e r1 r2 q => ?_
  unfold eqR at e
  split at e
  · rename_i h
    cases e
    refine ⟨_, _, r1.dp _ h.1, r2.dp _ h.2, gd_shaped h.1 (by decide), gd_shaped h.2 (by decide), ?_⟩
    rw [eqv_toP _ _ _ _ h.1 h.2]
    exact q
  · cases e
theorem op_neR (hu : X.A.units + 64 < cLine) : OpM X (compareOp .NotEq) (onR neR) := by
  refine onR_of (op_neD hu) fun W H a b c x y Q e r1 r2 q => ?_
  unfold neR at e
  split at e
  · rename_i h
    cases e
    refine ⟨_, _, r1.dp _ h.1, r2.dp _ h.2, gd_shaped h.1 (by decide), gd_shaped h.2 (by decide), ?_⟩
    rw [eqv_toP _ _ _ _ h.1 h.2]
    exact q
  · cases e
end
/-! ## an own list's methods -/
/-- a method by its mirror -/
def MethL (X : Cx) (T id : String) (g : S → List S → Mh → REx S) : Prop := ∀ B Wx, ∃ r, MtM X id r ∧ ∀ x xs H Q, (∃ σ W φ ρ M s ss, SI X.K B W φ ρ M σ H ∧ RS X.K W φ H s x ∧ RSs X.K W φ H ss xs ∧ Ct X.K B Wx σ ρ (RS X.K) W φ H (g s ss M) Q) → r x xs H Q
/-- an own list: where it stands, what it holds -/
def lsM (s : S) (M : Mh) : Option (Nat × List S) := match s with
  | .r n => (match M[n]? with
    | some (some (.lst xs)) => some (n, xs)
    | _ => none)
  | _ => none
def isL (s : S) (M : Mh) : Bool := (lsM s M).isSome
def eMeL (g : S → List S → Mh → REx S) (o : Em S) (a : Em (List S)) : Em S := eb o fun s => fun ρ M => if isL s M = true then eb a (fun ss => fun _ M => g s ss M) ρ M else .bad
section
variable {X : Cx} {Wx : WX} {K : PySem.W.Frag} {B : Bs} {W : Addr → Prop} {φ : List (Option Addr)} {ρ : Rho} {M : Mh} {σ : Sg} {H : Hp}
theorem lsM_at {s : S} {n : Nat} {xs : List S} (e : lsM s M = some (n, xs)) : s = .r n ∧ M[n]? = some (some (.lst xs)) := by
  cases s with
  | v d => cases e
  | r k =>
    simp only [lsM] at e
    cases h : M[k]? with
    | none =>
      rw [h] at e
      cases e
    | some o =>
      rw [h] at e
      cases o with
      | none => cases e
      | some o =>
        cases o with
        | lst ys =>
          cases e
          exact ⟨rfl, h⟩
        | dct _ => cases e
        | ins _ _ => cases e
theorem ownL (I : SI K B W φ ρ M σ H) {s : S} {x : V} {n : Nat} {xs : List S} (r : RS K W φ H s x) (e : lsM s M = some (n, xs)) : ∃ a vs, φ[n]? = some (some a) ∧ x = .ref a ∧ H a = some (.lst vs) ∧ RSs K W φ H xs vs := by
  obtain ⟨rfl, h⟩ := lsM_at e
  obtain ⟨a, ho, ha, hH, ro⟩ := I.obj n _ h
  obtain ⟨y, hy, hx⟩ := r
  rw [ha] at hy
  cases hy
  cases ho with
  | lst vs => exact ⟨a, vs, ha, hx a rfl, hH, ro⟩
  | _ => exact ro.elim
theorem me_meL {o e : Expr} {es : List Expr} {eo : Em S} {ea : Em (List S)} {name : Str} {apos cpos : Pos} {id : String} {g : S → List S → Mh → REx S} (hm : MethL X "list" id g) (slot : Slot "list" name id) (hty : typeOf (.builtin id) = pure (.type "method_descriptor")) (ho : ME X Wx o eo) (ha : MA X Wx (e :: es) ea)
    (hbase : attributeBase o name X.env (eval o X.env) = eval o X.env := by rfl)
    (hfew : ((backTo cpos (starEach (e :: es) X.env)).all (fun x => !x.1) && (backToKw cpos (keywordEach [] X.env)).all (fun x => x.1.isSome)
      && decide ((e :: es).length + ([] : List Keyword).length + (if ([] : List Keyword).isEmpty then 0 else 1) < 30)) = true := by rfl)
    (hline : (apos.endLine == cpos.line) = true := by rfl) (hs : starEach (e :: es) X.env = (false, eval e X.env) :: starEach es X.env := by rfl) (hplain : (backTo cpos (starEach es X.env)).any (·.1) = false := by rfl) :
    ME X Wx (.Call (.Attribute o name apos) (e :: es) [] cpos) (eMeL g eo ea) := fun B => by
  obtain ⟨r, h1, h2⟩ := hm B Wx
  refine pe_imp (pe_bm PySem.F.plainAttrs_list slot hty h1 (ho B) (ha B) hbase hfew hline hs hplain) fun σ H Q ⟨W, φ, ρ, M, I, h⟩ => ?_
  refine tl_mono (ct_bind (R := RS X.K) I h) fun x H1 ⟨W1, φ1, M1, s, I1, st1, r1, h1'⟩ => ?_
  by_cases q : isL s M1 = true
  · rw [if_pos q] at h1'
    obtain ⟨⟨n, xs⟩, e⟩ := Option.isSome_iff_exists.mp q
    obtain ⟨a, vs, hφ, rfl, hH, rs⟩ := ownL I1 r1 e
    refine ⟨.inl ⟨rfl, vs, .inl (.inl hH)⟩, ?_⟩
    refine tl_mono (ct_bind (R := RSs X.K) I1 h1') fun ys H2 ⟨W2, φ2, M2, ss, I2, st2, r2, h2'⟩ => ?_
    exact h2 _ _ _ _ ⟨_, _, _, _, _, _, _, I2, r1.stb st2, r2, h2'⟩
  · rw [if_neg q] at h1'
    exact h1'.elim
theorem me_meL0 {o : Expr} {eo : Em S} {name : Str} {apos cpos : Pos} {id : String} {g : S → List S → Mh → REx S} (hm : MethL X "list" id g) (slot : Slot "list" name id) (hty : typeOf (.builtin id) = pure (.type "method_descriptor")) (ho : ME X Wx o eo)
    (hbase : attributeBase o name X.env (eval o X.env) = eval o X.env := by rfl) (hline : (apos.endLine == cpos.line) = true := by rfl) : ME X Wx (.Call (.Attribute o name apos) [] [] cpos) (eMeL g eo eNil) := fun B => by
  obtain ⟨r, h1, h2⟩ := hm B Wx
  refine pe_imp (pe_bm0 PySem.F.plainAttrs_list slot hty h1 (ho B) hbase hline) fun σ H Q ⟨W, φ, ρ, M, I, h⟩ => ?_
  refine tl_mono (ct_bind (R := RS X.K) I h) fun x H1 ⟨W1, φ1, M1, s, I1, st1, r1, h1'⟩ => ?_
  by_cases q : isL s M1 = true
  · rw [if_pos q] at h1'
    obtain ⟨⟨n, xs⟩, e⟩ := Option.isSome_iff_exists.mp q
    obtain ⟨a, vs, hφ, rfl, hH, rs⟩ := ownL I1 r1 e
    exact ⟨.inl ⟨rfl, vs, .inl (.inl hH)⟩, h2 _ _ _ _ ⟨_, _, _, _, _, _, _, I1, r1, .nil, h1'⟩⟩
  · rw [if_neg q] at h1'
    exact h1'.elim
/-- the list's content as a function of it and the arguments; what is told -/
def onLs (f : List S → List S → Option (S × List S)) (s : S) (ss : List S) (M : Mh) : REx S := match lsM s M with
  | some (n, xs) => (match f xs ss with
    | some (y, zs) => .ok y (M.set n (some (.lst zs)))
    | none => .bad)
  | none => .bad
theorem onLs_of {id : String} {f : List S → List S → Option (S × List S)} {r : V → List V → Hp → VK → Prop} (h : MtM X id r)
    (hr : ∀ {W : Addr → Prop} {φ : List (Option Addr)} {H : Hp} {xs ss : List S} {y : S} {zs : List S} {a : Addr} {vs us : List V} {Q : VK}, f xs ss = some (y, zs) → H a = some (.lst vs) → RSs X.K W φ H xs vs → RSs X.K W φ H ss us →
      (∀ (u : V) ws, RS X.K W φ H y u → RSs X.K W φ H zs ws → Q u (upd H a (.lst ws))) → r (.ref a) us H Q) : MethL X "list" id (onLs f) := fun B Wx => ⟨r, h, fun x us H Q ⟨σ, W, φ, ρ, M, s, ss, I, r1, r2, q⟩ => by
  unfold onLs at q
  cases e : lsM s M with
  | none =>
    rw [e] at q
    exact q.elim
  | some p =>
    obtain ⟨n, xs⟩ := p
    rw [e] at q
    simp only at q
    cases e2 : f xs ss with
    | none =>
      rw [e2] at q
      exact q.elim
    | some p2 =>
      obtain ⟨y, zs⟩ := p2
      rw [e2] at q
      obtain ⟨a, vs, ha, rfl, hH, rs⟩ := ownL I r1 e
      refine hr e2 hH rs r2 fun u ws ru rz => ?_
      have st := I.stbWr (o := .lst ws) ha
      exact q _ _ _ _ (I.write (ho := .lst ws) (o := .lst zs) ha rz) st (ru.stb st)⟩
def appF (xs : List S) : List S → Option (S × List S)
  | [x] => if xs.length < 16777216 then some (.v .non, xs ++ [x]) else none
  | _ => none
theorem mm_append : MethL X "list" "list.append" (onLs appF) := onLs_of mt_append fun {W φ H xs ss y zs a vs us Q} e hH r1 r2 q => by
  cases r2 with
  | nil => cases e
  | @cons s v ss us r3 r4 =>
    cases r4 with
    | cons _ _ => cases e
    | nil =>
      simp only [appF] at e
      split at e
      · rename_i hz
        cases e
        have hl := Paired.length r1
        exact ⟨a, vs, v, rfl, rfl, hH, by rw [sizeLine_eq]; omega, q _ _ .non (RSs.app r1 (.cons r3 .nil))⟩
      · cases e
/-- xs.pop(i), i from the front; xs.pop() -/
def popF (xs : List S) : List S → Option (S × List S)
  | [.v (.int i)] => if 0 ≤ i ∧ xs.length ≤ 16777216 then (match xs[i.toNat]? with
    | some y => some (y, xs.eraseIdx i.toNat)
    | none => none) else none
  | _ => none
def pop0F (xs : List S) : List S → Option (S × List S)
  | [] => (match xs[xs.length - 1]? with
    | some y => some (y, xs.dropLast)
    | none => none)
  | _ => none
theorem RSs.eraseIdx {ss : List S} {vs : List V} (h : RSs K W φ H ss vs) : ∀ k, RSs K W φ H (ss.eraseIdx k) (vs.eraseIdx k) := by
  induction h with
  | nil => exact fun _ => .nil
  | cons a r ih =>
    intro k
    cases k with
    | zero => exact r
    | succ k => exact .cons a (ih k)
theorem RSs.dropLast {ss : List S} {vs : List V} (h : RSs K W φ H ss vs) : RSs K W φ H ss.dropLast vs.dropLast := by
  rw [List.dropLast_eq_take, List.dropLast_eq_take, Paired.length h]
  exact RSs.takeS _ h
theorem mm_pop : MethL X "list" "list.pop" (onLs popF) := onLs_of mt_popAt fun {W φ H xs ss y zs a vs us Q} e hH r1 r2 q => by
  cases r2 with
  | nil => cases e
  | @cons s v ss us r3 r4 =>
    cases r4 with
    | cons _ _ =>
      simp only [popF] at e
      cases e
    | nil =>
      cases s with
      | r k => cases e
      | v d =>
        cases r3 with
        | int i =>
          simp only [popF] at e
          split at e
          · rename_i hz
            cases h : xs[i.toNat]? with
            | none =>
              rw [h] at e
              cases e
            | some y' =>
              rw [h] at e
              cases e
              obtain ⟨v, hv, rv⟩ := RSs.get r1 h
              have hl := Paired.length r1
              have hk : i.toNat < vs.length := (List.getElem?_eq_some_iff.mp hv).1
              refine ⟨a, vs, i, i.toNat, v, rfl, rfl, hH, by omega, by omega, ?_, hv, q _ _ rv (RSs.eraseIdx r1 _)⟩
              have e1 : ¬ i < 0 := by omega
              have e2 : i < (vs.length : Int) := by omega
              simp [seqIndex?, e1, hz.1, e2]
          · cases e
        | _ => cases e
theorem mm_pop0 : MethL X "list" "list.pop" (onLs pop0F) := onLs_of mt_pop fun {W φ H xs ss y zs a vs us Q} e hH r1 r2 q => by
  cases r2 with
  | cons _ _ => cases e
  | nil =>
    simp only [pop0F] at e
    cases h : xs[xs.length - 1]? with
    | none =>
      rw [h] at e
      cases e
    | some y' =>
      rw [h] at e
      cases e
      have hl := Paired.length r1
      obtain ⟨v, hv, rv⟩ := RSs.get r1 h
      rw [hl] at hv
      exact ⟨a, vs, v, rfl, rfl, hH, hv, q _ _ rv (RSs.dropLast r1)⟩
end
end Md
end
section
namespace Md
open PySem PySem.Spec PyProof.Rows L2
section
variable {X : Cx} {Wx : WX}
/-! ## a display whose parts may be own -/
def eLstO (a : Em (List S)) : Em S := eb a fun ss => fun _ M => if ss.length ≤ 16777216 then .ok (.r M.length) (M ++ [some (.lst ss)]) else .bad
theorem me_lstO {es : List Expr} {ea : Em (List S)} {pos : Pos} (h : MA X Wx es ea) : ME X Wx (.List es pos) (eLstO ea) := fun B => pe_imp (pe_lst (h B)) fun σ H Q ⟨W, φ, ρ, M, I, q⟩ => by
  refine tl_mono (ct_bind (R := RSs X.K) I q) fun xs H1 ⟨W1, φ1, M1, ss, I1, st1, r1, h1⟩ => ?_
  have hl := Paired.length r1
  by_cases hz : ss.length ≤ 16777216
  · rw [if_pos hz] at h1
    refine ⟨by rw [← hl, sizeLine_eq]; exact hz, fun p hp => ?_⟩
    have J := I1.newOwn (ho := .lst xs) (o := .lst ss) hp (I1.free hp) r1
    refine h1 _ _ _ _ J (I1.stbOwn hp) ⟨some p, ?_, fun a e => by cases e; rfl⟩
    rw [← I1.len]
    simp
  · rw [if_neg hz] at h1
    exact h1.elim
/-! ## o[i] = e, o an own list -/
def ixM (s k : S) (M : Mh) : Option (Nat × List S × Nat) := match lsM s M, k with
  | some (n, xs), .v (.int i) => if 0 ≤ i ∧ i < xs.length then some (n, xs, i.toNat) else none
  | _, _ => none
def sSetIx (o i e : Em S) : Sm := sB e fun v => sB o fun s => sB i fun k => fun ρ M => match ixM s k M with
  | some (n, xs, j) => .nx ρ (M.set n (some (.lst (xs.set j v))))
  | none => .bad
theorem RSs.set {K : PySem.W.Frag} {W : Addr → Prop} {φ : List (Option Addr)} {H : Hp} {ss : List S} {vs : List V} (h : RSs K W φ H ss vs) {s : S} {v : V} (r : RS K W φ H s v) : ∀ j, RSs K W φ H (ss.set j s) (vs.set j v) := by
  induction h with
  | nil => exact fun _ => .nil
  | cons a t ih =>
    intro k
    cases k with
    | zero => exact .cons r t
    | succ k => exact .cons a (ih k)
theorem ms_setix {k : Nat} {o i e : Expr} {eo ei ee : Em S} {pos pos' : Pos} (he : ME X Wx e ee) (ho : ME X Wx o eo) (hi : ME X Wx i ei)
    (ha : ∀ v, assign (.Subscript o i pos') X.env v = (do
      let ov ← holding [v] (eval o X.env)
      let iv ← holding [v, ov] (eval i X.env)
      standAt pos'
      holding [v, ov, iv] (setItem ov iv v)
      release [v, ov, iv] []) := by intro _; rfl)
    (hs : swapsWithSole [.Subscript o i pos'] e pos.line X.env = pure false := by rfl) (hw : swappedStores [.Subscript o i pos'] e X.env = pure none := by rfl)
    (h1 : (assignEach [.Subscript o i pos'] X.env).map (·.2) = [assign (.Subscript o i pos') X.env] := by rfl) : MS X Wx k (.Assign [.Subscript o i pos'] e pos) (sSetIx eo ei ee) := fun B hB =>
  ps_imp (ps_asg (he B) (pg_sub (ho B) (hi B) set_list ha) hs hw h1) fun E σ H ⟨W, φ, ρ, M, I, q⟩ => by
    refine tl_mono (ct_sB (R := RS X.K) I q) fun x H1 ⟨W1, φ1, M1, s, I1, st1, r1, q1⟩ => ?_
    refine tl_mono (ct_sB (R := RS X.K) I1 q1) fun y H2 ⟨W2, φ2, M2, t, I2, st2, r2, q2⟩ => ?_
    refine tl_mono (ct_sB (R := RS X.K) I2 q2) fun z H3 ⟨W3, φ3, M3, u, I3, st3, r3, q3⟩ => ?_
    unfold ixM at q3
    cases e1 : lsM t M3 with
    | none =>
      rw [e1] at q3
      exact q3.elim
    | some p =>
      obtain ⟨n, xs⟩ := p
      rw [e1] at q3
      cases u with
      | r _ => exact q3.elim
      | v d =>
        cases r3 with
        | int i =>
          simp only at q3
          by_cases hz : 0 ≤ i ∧ i < xs.length
          · rw [if_pos hz] at q3
            obtain ⟨a, vs, ha, rfl, hH, rs⟩ := ownL I3 (r2.stb st3) e1
            have hl := Paired.length rs
            refine ⟨a, vs, i, i.toNat, rfl, rfl, hH, ?_, ?_⟩
            · unfold ixN
              rw [if_pos hz.1, if_pos (by omega)]
            · have st := I3.stbWr (o := .lst (vs.set i.toNat x)) ha
              exact q3 _ _ _ _ (I3.write (ho := .lst (vs.set i.toNat x)) (o := .lst (xs.set i.toNat s)) ha (RSs.set rs ((r1.stb st2).stb st3) _)) st.tw
          · rw [if_neg hz] at q3
            exact q3.elim
        | _ => exact q3.elim
/-! ## texts -/
theorem CallR.or {f : Value} {r r' : List V → Hp → VK → Prop} (h : CallR X f r) (h' : CallR X f r') : CallR X f (fun xs H Q => r xs H Q ∨ r' xs H Q) := fun pins s σ H xs us Q I r q => q.elim (h pins s σ H xs us Q I r) (h' pins s σ H xs us Q I r)
theorem call_str_non : CallR X (.type "str") (fun xs H Q => xs = [.non] ∧ Q (.str "None") H) := by
  intro pins s σ H xs us Q I r h
  obtain ⟨rfl, q⟩ := h
  obtain ⟨u, rfl, t⟩ := vals1 r
  cases t
  exact PySem.P.str_of_none ⟨.str _, H, I.tok _, ⟨_, rfl⟩, q⟩
def strL2 : List D → Option D
  | [.int i] => if i.natAbs.log2 < 1920 then some (.str (toString i)) else none
  | [.non] => some (.str "None")
  | [.str x] => some (.str x)
  | _ => none
theorem cm_str2 : CallM X (.type "str") (onL strL2) := onL_of (CallR.or call_str_int (CallR.or call_str_non SkE.call_str_str)) fun B Wx σ ρ W φ H M ds d xs Q I e r q => by
  unfold strL2 at e
  split at e
  · split at e
    · rename_i hz
      cases e
      obtain ⟨x, rfl, r1⟩ := rvs1 r
      cases r1
      exact .inl ⟨_, rfl, hz, ct_ok (M := M) I q (.str _)⟩
    · cases e
  · cases e
    obtain ⟨x, rfl, r1⟩ := rvs1 r
    cases r1
    exact .inr (.inl ⟨rfl, ct_ok (M := M) I q (.str _)⟩)
  · cases e
    obtain ⟨x, rfl, r1⟩ := rvs1 r
    cases r1
    exact .inr (.inr ⟨_, rfl, ct_ok (M := M) I q (.str _)⟩)
  · cases e
def intL2 : List D → Option D
  | [.int i] => some (.int i)
  | [.bl b] => some (.int (if b then 1 else 0))
  | [.str a] => if a.length ≤ 640 then (match PySem.intText? a with
    | some n => some (.int n)
    | none => none) else none
  | _ => none
/-! ### a text's methods -/
def eM1 (g : Str → S → Mh → REx S) (o a : Em S) : Em S := eb o fun s => match s with
  | .v (.str x) => eb a fun t => fun _ M => g x t M
  | _ => eX
theorem m1_of {o e : Expr} {full : Expr} {eo ea : Em S} {g : Str → S → Mh → REx S} {r : V → List V → Hp → VK → Prop} (ho : ME X Wx o eo) (he : ME X Wx e ea)
    (h : ∀ {to te : TE}, PE X o to → PE X e te → PE X full (tM1 r to te))
    (hr : ∀ {B : Bs} {σ : Sg} {ρ : Rho} {W : Addr → Prop} {φ : List (Option Addr)} {H : Hp} {M : Mh} {x : Str} {t : S} {y : V} {Q : VK}, SI X.K B W φ ρ M σ H → RS X.K W φ H t y → Ct X.K B Wx σ ρ (RS X.K) W φ H (g x t M) Q → r (.str x) [y] H Q) : ME X Wx full (eM1 g eo ea) := fun B =>
  pe_imp (h (ho B) (he B)) fun σ H Q ⟨W, φ, ρ, M, I, q⟩ => by
    refine tl_mono (ct_bind (R := RS X.K) I q) fun x H1 ⟨W1, φ1, M1, s, I1, st1, r1, q1⟩ => ?_
    cases s with
    | r n => exact q1.elim
    | v d =>
      cases r1 with
      | str a =>
        refine ⟨⟨a, rfl⟩, ?_⟩
        exact tl_mono (ct_bind (R := RS X.K) I1 q1) fun y H2 ⟨W2, φ2, M2, t, I2, st2, r2, q2⟩ => hr I2 r2 q2
      | _ => exact q1.elim
def joinG (a : Str) (t : S) (M : Mh) : REx S := match seqS t M with
  | some ds => (match strsD ds with
    | some ys => if (ys.map (·.length)).sum + ys.length * a.length ≤ 16777216 then .ok (.v (.str (Txt.join a ys))) M else .bad
    | none => .bad)
  | none => .bad
theorem me_join {o e : Expr} {eo ea : Em S} {apos pos : Pos} (ho : ME X Wx o eo) (he : ME X Wx e ea) (hs : starEach [e] X.env = [(false, eval e X.env)] := by rfl) (hbase : attributeBase o "join" X.env (eval o X.env) = eval o X.env := by rfl) (hline : (apos.endLine == pos.line) = true := by rfl) :
    ME X Wx (.Call (.Attribute o "join" apos) [e] [] pos) (eM1 joinG eo ea) := m1_of ho he (fun h1 h2 => pe_join h1 h2 hs hbase hline) fun {B σ ρ W φ H M x t y Q} I r q => by
  unfold joinG at q
  cases e1 : seqS t M with
  | none =>
    rw [e1] at q
    exact q.elim
  | some ds =>
    rw [e1] at q
    simp only at q
    cases e2 : strsD ds with
    | none =>
      rw [e2] at q
      exact q.elim
    | some ys =>
      rw [e2] at q
      simp only at q
      split at q
      · rename_i hz
        obtain ⟨a, vs, rfl, h1, h2⟩ := seqS_ok I r e1
        have e3 := strsD_ok e2 h2
        rw [e3] at h1
        exact ⟨x, a, ys, rfl, rfl, h1, hz, ct_ok (M := M) I q (.str _)⟩
      · exact q.elim
/-- text.split(between), just made -/
def eSplit (o a : Em S) : Em (List D) := eb o fun s => match s with
  | .v (.str x) => eb a fun t => match t with
    | .v (.str b) => if (b.length == 0) = false ∧ x.length + 2 ≤ 16777216 then er ((Txt.split x b).map .str) else eX
    | _ => eX
  | _ => eX
theorem rvs_strs {K : PySem.W.Frag} {W : Addr → Prop} {H : Hp} : ∀ ys : List Str, RVs K W H (ys.map .str) (ys.map V.str)
  | [] => .nil
  | y :: ys => .cons (.str y) (rvs_strs ys)
theorem mf_split {o e : Expr} {eo ea : Em S} {apos pos : Pos} (ho : ME X Wx o eo) (he : ME X Wx e ea) (hs : starEach [e] X.env = [(false, eval e X.env)] := by rfl) (hbase : attributeBase o "split" X.env (eval o X.env) = eval o X.env := by rfl) (hline : (apos.endLine == pos.line) = true := by rfl) :
    MF X Wx (.Call (.Attribute o "split" apos) [e] [] pos) (eSplit eo ea) := fun B =>
  pe_imp (pe_split (ho B) (he B) hs hbase hline) fun σ H Q ⟨W, φ, ρ, M, I, q⟩ => by
    refine tl_mono (ct_bindF (R := RS X.K) I q) fun x H1 ⟨W1, φ1, M1, s, I1, st1, r1, q1⟩ => ?_
    cases s with
    | r n => exact q1.elim
    | v d =>
      cases r1 with
      | str a =>
        refine ⟨⟨a, rfl⟩, ?_⟩
        refine tl_mono (ct_bindF (R := RS X.K) I1 q1) fun y H2 ⟨W2, φ2, M2, t, I2, st2, r2, q2⟩ => ?_
        cases t with
        | r n => exact q2.elim
        | v d =>
          cases r2 with
          | str b =>
            simp only at q2
            split at q2
            · rename_i hz
              exact ⟨a, b, rfl, rfl, hz.1, by rw [sizeLine_eq]; exact hz.2, fun p hp => ctF_ok (M := M2) I2 q2 hp (rvs_strs _)⟩
            · exact q2.elim
          | _ => exact q2.elim
      | _ => exact q1.elim
def partG (a : Str) (t : S) (M : Mh) : REx S := match t with
  | .v (.str b) => if (b.length == 0) = false ∧ a.length ≤ 16777216 then .ok (.v (.tup [.str (Txt.partition a b).1, .str (Txt.partition a b).2.1, .str (Txt.partition a b).2.2])) M else .bad
  | _ => .bad
theorem me_part {o e : Expr} {eo ea : Em S} {apos pos : Pos} (ho : ME X Wx o eo) (he : ME X Wx e ea) (hs : starEach [e] X.env = [(false, eval e X.env)] := by rfl) (hbase : attributeBase o "partition" X.env (eval o X.env) = eval o X.env := by rfl) (hline : (apos.endLine == pos.line) = true := by rfl) :
    ME X Wx (.Call (.Attribute o "partition" apos) [e] [] pos) (eM1 partG eo ea) := m1_of ho he (fun h1 h2 => pe_partition h1 h2 hs hbase hline) fun {B σ ρ W φ H M x t y Q} I r q => by
  unfold partG at q
  cases t with
  | r n => exact q.elim
  | v d =>
    cases r with
    | str b =>
      simp only at q
      split at q
      · rename_i hz
        refine ⟨x, b, rfl, rfl, hz.1, by rw [sizeLine_eq]; exact hz.2, fun p hp => ?_⟩
        have h2 : RVs X.K W H [D.str (Txt.partition x b).1, .str (Txt.partition x b).2.1, .str (Txt.partition x b).2.2] [V.str (Txt.partition x b).1, .str (Txt.partition x b).2.1, .str (Txt.partition x b).2.2] := .cons (.str _) (.cons (.str _) (.cons (.str _) .nil))
        exact q _ _ _ _ (I.new hp) (I.stbNew hp) (I.newTup hp h2)
      · exact q.elim
    | _ => exact q.elim
/-- a sign in a text -/
def inSg : D → D → Option D
  | .str x, .str z => (match x.cps.toList with
    | [c] => some (.bl (decide (c ∈ z.cps.toList)))
    | _ => none)
  | _, _ => none
theorem op_inSg : OpM X (compareOp .In) (onD inSg) := onD_of op_in_sign fun B Wx σ ρ W φ H M a b d x y Q I e r1 r2 q => by
  cases r1 with
  | str s =>
    cases r2 with
    | str z =>
      simp only [inSg] at e
      split at e
      · rename_i c h
        cases e
        refine ⟨c, z, ?_, rfl, ct_ok (M := M) I q (.bl _)⟩
        obtain ⟨cs⟩ := s
        obtain ⟨l⟩ := cs
        have h' : l = [c] := h
        subst h'
        rfl
      · cases e
    | _ => cases e
  | _ => cases e
theorem op_in2 (hu : X.A.units + 65 < cLine) : OpM X (compareOp .In) (onD fun a b => match b with
    | .str _ => inSg a b
    | _ => inD a b) := fun B Wx pins s σ H x y v u Q I rx ry ⟨σ', W, φ, ρ, M, s', t, J, r1, r2, q⟩ => by
  cases s' with
  | r n => exact q.elim
  | v a =>
    cases t with
    | r n => exact q.elim
    | v b =>
      by_cases h : ∃ z, b = .str z
      · obtain ⟨z, rfl⟩ := h
        exact op_inSg B Wx pins s σ H x y v u Q I rx ry ⟨σ', W, φ, ρ, M, _, _, J, r1, r2, q⟩
      · have e : (onD (fun a b => match b with
          | .str _ => inSg a b
          | _ => inD a b) (.v a) (.v b) M : REx S) = onD inD (.v a) (.v b) M := by
          cases b with
          | str z => exact absurd ⟨z, rfl⟩ h
          | _ => rfl
        rw [e] at q
        exact op_inD hu B Wx pins s σ H x y v u Q I rx ry ⟨σ', W, φ, ρ, M, _, _, J, r1, r2, q⟩
theorem cm_int2 : CallM X (.type "int") (onL intL2) := by
  intro B Wx pins s σ H xs us Q I r ⟨σ', W, φ, ρ, M, ss, J, r1, q⟩
  unfold onL at q
  cases e : frzS ss with
  | none =>
    rw [e] at q
    exact q.elim
  | some ds =>
    rw [e] at q
    by_cases h : ∃ a, ds = [.str a]
    · obtain ⟨a, rfl⟩ := h
      have r2 := frzS_ok e r1
      obtain ⟨x, rfl, r3⟩ := rvs1 r2
      cases r3
      simp only [intL2] at q
      split at q
      · rename_i hz
        cases e2 : PySem.intText? a with
        | none =>
          rw [e2] at q
          exact q.elim
        | some n =>
          rw [e2] at q
          exact call_int_str pins s σ H _ us Q I r ⟨a, n, rfl, e2, hz, ct_ok (M := M) J q (.int _)⟩
      · exact q.elim
    · refine cm_int B Wx pins s σ H xs us Q I r ⟨σ', W, φ, ρ, M, ss, J, r1, ?_⟩
      unfold onL
      rw [e]
      have e3 : intL2 ds = intL ds := by
        unfold intL2 intL
        split <;> first | rfl | (exfalso; exact h ⟨_, rfl⟩) | skip
        split <;> first | rfl | (simp_all; done) | skip
      show Ct X.K B Wx σ' ρ (RS X.K) W φ H (eD M (intL ds)) Q
      rw [← e3]
      exact q
end
end Md
end
section
namespace Md
open PySem PySem.Spec PyProof.Rows L2
/-! ## calls that only look -/
theorem SI.ext {K : PySem.W.Frag} {B : Bs} {W : Addr → Prop} {φ : List (Option Addr)} {ρ : Rho} {M : Mh} {σ : Sg} {H H' : Hp} (I : SI K B W φ ρ M σ H) (h : ∀ a o, H a = some o → H' a = some o) : SI K B W φ ρ M σ H' ∧ Stb W φ H W φ H' := by
  have st : Stb W φ H W φ H' := ⟨⟨fun a z => .inl z, fun a o _ e => h a o e⟩, fun _ _ e => e, fun a o _ e => h a o e, fun _ _ e => .inl e, fun a o e => ⟨o, h a o e⟩, fun _ z => z⟩
  refine ⟨⟨I.len, I.inj, I.own, fun a z => ?_, fun n o e => ?_, I.w0, I.wn, fun a o e n => h a o (I.fr a o e n), I.k0, I.kn, fun i s e => ?_, I.slen, I.wb, I.pw⟩, st⟩
  · obtain ⟨o, e⟩ := I.trk a z
    exact ⟨o, h a o e⟩
  · obtain ⟨a, ho, e1, e2, e3⟩ := I.obj n o e
    exact ⟨a, ho, e1, h a ho e2, e3.stb st⟩
  · obtain ⟨x, e1, e2⟩ := I.slots i s e
    exact ⟨x, e1, e2.stb st⟩
theorem SI.look {K : PySem.W.Frag} {B : Bs} {W : Addr → Prop} {φ : List (Option Addr)} {ρ : Rho} {M : Mh} {σ : Sg} {H : Hp} (I : SI K B W φ ρ M σ H) (Wa : Addr → Prop) (hw : ∀ a, Wa a → W a) : SI K ⟨Wa, H, []⟩ Wa [] [] [] [] H :=
  ⟨rfl, fun i j a e => by simp at e, fun i a e => by simp at e, fun a z => I.trk a (hw a z), fun i o e => by simp at e, fun _ z => z, fun _ z => .inl z, fun _ _ e _ => e, fun i a e => by simp at e, fun i a _ e => by simp at e, fun i s e => by simp at e, rfl, fun a z => I.trk a (hw a z), fun a h => by simp at h⟩
def scD : D → Bool
  | .non => true
  | .bl _ => true
  | .int _ => true
  | .str _ => true
  | _ => false
theorem RV.sc {K : PySem.W.Frag} {W W' : Addr → Prop} {H H' : Hp} {d : D} {x : V} (h : RV K W H d x) (e : scD d = true) : RV K W' H' d x := by
  cases h with
  | non => exact .non
  | bl b => exact .bl b
  | int i => exact .int i
  | str s => exact .str s
  | _ => cases e
/-- the arguments are read, own lists among them; what comes is no object -/
def gBr (m : Mf) (ss : List S) (M : Mh) : REx S := match rdL (rdS 4 M) ss with
  | some ds => (match m (ds.map .v) [] with
    | .ok (.v d) [] => if scD d = true then .ok (.v d) M else .bad
    | .exn x [] => .exn x M
    | _ => .bad)
  | none => .bad
theorem call_br {K : PySem.W.Frag} {m : Mf} : Caller K m (gBr m) := fun dss m' B Wx σ ρ W φ H M ss xs dvs Q hm hd I r q => by
  unfold gBr at q
  cases e : rdL (rdS 4 M) ss with
  | none =>
    rw [e] at q
    exact q.elim
  | some ds =>
    rw [e] at q
    simp only [hm] at q
    have r1 : RVs K (offW W φ) H ds xs := rdL_ok (fun s d x e r => rd_ok I 4 e r) e r
    refine ⟨offW W φ, [], ds.map .v ++ dss.map .v, [], I.look _ fun _ z => z.1, RSs.app (rs_of_rv r1) (rs_of_rv (hd _ H)), ?_⟩
    generalize m' (ds.map .v ++ dss.map .v) [] = res at q ⊢
    have back : ∀ {W' : Addr → Prop} {φ' : List (Option Addr)} {H' : Hp}, SI K ⟨offW W φ, H, []⟩ W' φ' [] [] [] H' → SI K B W φ ρ M σ H' ∧ Stb W φ H W φ H' := fun J => I.ext fun a o e => J.fr a o e (by simp)
    cases res with
    | bad => exact q
    | exn x M1 =>
      cases M1 with
      | cons _ _ => exact q.elim
      | nil =>
        intro cls d W' φ' H' J xr
        exact q cls d _ _ H' (back J).1 xr
    | ok s M1 =>
      cases s with
      | r n => exact q.elim
      | v d =>
        cases M1 with
        | cons _ _ => exact q.elim
        | nil =>
          intro W' φ' H' x J rx
          simp only at q
          by_cases hs : scD d = true
          · rw [if_pos hs] at q
            exact q _ _ H' x (back J).1 (back J).2 (RV.sc rx hs)
          · rw [if_neg hs] at q
            exact q.elim
/-! ## calls with keywords -/
theorem sel_nil {α : Type} (p : List Nat) : sel p ([] : List α) = [] := by
  unfold sel
  induction p with
  | nil => rfl
  | cons i p ih => rw [List.filterMap_cons]; simpa using ih
theorem sel_cons {α : Type} (i : Nat) (p : List Nat) (l : List α) : sel (i :: p) l = (match l[i]? with
  | some a => a :: sel p l
  | none => sel p l) := by
  unfold sel
  rw [List.filterMap_cons]
  cases l[i]? <;> rfl
theorem sel_vals {p : List Nat} {vs : List V} {us : List Value} (h : Vals vs us) : Vals (sel p vs) (sel p us) := by
  induction p with
  | nil => exact .nil
  | cons i p ih =>
    rw [sel_cons, sel_cons]
    cases e : vs[i]? with
    | none =>
      have e2 : us[i]? = none := by
        rw [List.getElem?_eq_none_iff] at e ⊢
        rw [← h.length]
        exact e
      rw [e2]
      exact ih
    | some v =>
      obtain ⟨u, e2, r⟩ := h.get e
      rw [e2]
      exact .cons r ih
theorem sel_rss {K : PySem.W.Frag} {W : Addr → Prop} {φ : List (Option Addr)} {H : Hp} {p : List Nat} {ss : List S} {vs : List V} (h : RSs K W φ H ss vs) : RSs K W φ H (sel p ss) (sel p vs) := by
  induction p with
  | nil => exact .nil
  | cons i p ih =>
    rw [sel_cons, sel_cons]
    cases e : ss[i]? with
    | none =>
      have e2 : vs[i]? = none := by
        rw [List.getElem?_eq_none_iff] at e ⊢
        rw [← Paired.length h]
        exact e
      rw [e2]
      exact ih
    | some v =>
      obtain ⟨u, e2, r⟩ := RSs.get h e
      rw [e2]
      exact .cons r ih
section
variable {X : Cx} {Wx : WX}
def MK (X : Cx) (Wx : WX) (ks : List Keyword) (em : Em (List S)) : Prop := ∀ B, PK X ks (tl X.K B Wx (RSs X.K) em)
theorem pk_imp {ks : List Keyword} {t t' : TA} (h : PK X ks t) (i : ∀ σ H Q, t' σ H Q → t σ H Q) : PK X ks t' := ⟨fun pos pins s σ H Q I q => h.run pos pins s σ H Q I (i σ H Q q)⟩
theorem mk_nil : MK X Wx [] eNil := fun B => pk_imp pk_nil fun σ H Q ⟨W, φ, ρ, M, I, h⟩ => ct_ok (M := M) (a := ([] : List S)) I h .nil
theorem mk_cons {nm : Option Str} {e : Expr} {kp : Pos} {ks : List Keyword} {ea : Em S} {er' : Em (List S)} (ha : ME X Wx e ea) (hr : MK X Wx ks er') : MK X Wx (⟨nm, e, kp⟩ :: ks) (eCons ea er') := fun B =>
  pk_imp (pk_cons (ha B) (hr B)) fun σ H Q ⟨W, φ, ρ, M, I, h⟩ => by
    refine tl_mono (ct_bind (R := RS X.K) I h) fun x H1 ⟨W1, φ1, M1, s, I1, st1, r1, h1⟩ => ?_
    refine tl_mono (ct_bind (R := RSs X.K) I1 h1) fun xs H2 ⟨W2, φ2, M2, ss, I2, st2, r2, h2⟩ => ?_
    exact ct_ok (M := M2) I2 h2 (.cons (r1.stb st2) r2)
variable {lv n : Nat} {m : Mf} {g : List S → Mh → REx S} {x : Str} {ks : List Str} {pm : List Nat} {p pos : Pos} {e : Expr} {es : List Expr} {kws : List Keyword} {ea ek : Em (List S)}
/-- lengths are looked at as well -/
def eCallKn (p : List Nat) (n m : Nat) (g : List S → Mh → REx S) (a b : Em (List S)) : Em S := eb a fun ss => eb b fun zs => fun _ M => if ss.length = n ∧ zs.length = m then g (sel p (ss ++ zs)) M else .bad
theorem kw_tail {B : Bs} {pins : List (Addr × Obj)} {σ : Sg} {ρ : Rho} {W : Addr → Prop} {φ : List (Option Addr)} {M : Mh} {H : Hp} {s : Shared} {Q : VK} {ss zs : List S} {vs ys : List V} {us ws : List Value} (F : FnK X.prog X.w X.K X.mg X.base lv x n ks pm m) (hc : Caller X.K m g) (hr : RoomG lv X.A) (tk : Takes X Wx)
    {f : Addr} {fd : FuncData} {ps : List Str} (h1 : FnG X.prog X.w X.K X.mg X.base lv f fd ps (spM X.K m)) (h4 : ∀ (s : Shared) (us ws : List Value), X.K.In s.heap → us.length = n → ws.length = ks.length → BindsTo s fd ⟨us, ks.zip ws⟩ (ps.zip (sel pm (us ++ ws))))
    (J : Inv X pins σ H s) (r : Vals vs us) (rz : Vals ys ws) (I : SI X.K B W φ ρ M σ H) (rs : RSs X.K W φ H ss vs) (rk : RSs X.K W φ H zs ys)
    (q : Ct X.K B Wx σ ρ (RS X.K) W φ H (if ss.length = n ∧ zs.length = ks.length then g (sel pm (ss ++ zs)) M else .bad) Q) :
    wpAny (model X.prog X.w) X.A (call (.ref f) us (ks.zip ws)) (EP X pins σ Q) X.xe s := by
  split at q
  · rename_i hl
    have l1 : us.length = n := by rw [← r.length, ← Paired.length rs]; exact hl.1
    have l2 : ws.length = ks.length := by rw [← rz.length, ← Paired.length rk]; exact hl.2
    have sp := hc [] m B Wx σ ρ W φ H M (sel pm (ss ++ zs)) (sel pm (vs ++ ys)) [] Q (fun ss M => by rw [List.map_nil, List.append_nil]) (fun _ _ => .nil) I (sel_rss (RSs.app rs rk)) q
    rw [List.append_nil] at sp
    refine wpAny_call (codeAny_mono (h1.go X.A X.stack s H ⟨us, ks.zip ws⟩ _ _ Q _ hr J.env0 (h4 s us ws J.kIn l1 l2) (sel_vals (r.append rz)) sp) fun r s' hq => ?_)
    cases r with
    | error e => exact passAt tk σ pins H s e s' J hq
    | ok fl =>
      cases fl with
      | ret u => exact J.after hq
      | next => exact False.elim hq
      | brk => exact False.elim hq
      | cont => exact False.elim hq
  · exact q.elim
theorem me_callK0 {kl : Nat} (F : FnK X.prog X.w X.K X.mg X.base lv x n ks pm m) (hc : Caller X.K m g) (hr : RoomG lv X.A) (hg : Gl X x) (tk : Takes X Wx) (hk : MK X Wx kws ek) (hkl : ks.length = kl := by rfl)
    (hall : (backToKw pos (keywordEach kws X.env)).all (·.1.isSome) = true := by rfl) (hks : (backToKw pos (keywordEach kws X.env)).filterMap (·.1) = ks := by rfl) (hdb : (x == ("__debug__" : Str)) = false := by decide)
    (hpl : ((backTo pos (starEach [] X.env)).any (·.1) || (backToKw pos (keywordEach kws X.env)).any (·.1.isNone)) = false := by rfl) :
    ME X Wx (.Call (.Name x p) [] kws pos) (eCallKn pm n kl g eNil ek) := fun B => by
  subst hkl
  obtain ⟨f, fd, ps, h1, h2, h3, h4⟩ := F.ex
  refine ⟨fun pins s σ H Q J ⟨W, φ, ρ, M, I, q⟩ => ?_⟩
  refine wpAny_Call_Name_kw (ld_glob J hg h2 ?_ hdb)
  have q0 : tl X.K B Wx (RSs X.K) ek σ H fun ys H2 => ∃ W2 φ2 M2 zs, SI X.K B W2 φ2 ρ M2 σ H2 ∧ Stb W φ H W2 φ2 H2 ∧ RSs X.K W2 φ2 H2 zs ys ∧ Ct X.K B Wx σ ρ (RS X.K) W2 φ2 H2 (if (([] : List S)).length = n ∧ zs.length = ks.length then g (sel pm ([] ++ zs)) M2 else .bad) Q :=
    ct_bind (R := RSs X.K) (k := fun zs => fun _ M => if (([] : List S)).length = n ∧ zs.length = ks.length then g (sel pm ([] ++ zs)) M else .bad) I q
  refine PySem.W.callWith_KW0 (h₀ := X.base) J.ok.mod.kin h3 hall (thn ((hk B).run pos pins s σ H _ J q0) fun ws s2 ⟨ys, H2, J2, rz, W2, φ2, M2, zs, I2, st2, r2, q2⟩ => ⟨J2.kIn, ?_⟩) hpl
  rw [hks]
  exact kw_tail (us := []) (vs := []) (ss := []) F hc hr tk h1 h4 J2 .nil rz I2 .nil r2 q2
theorem me_callK {kl : Nat} (F : FnK X.prog X.w X.K X.mg X.base lv x n ks pm m) (hc : Caller X.K m g) (hr : RoomG lv X.A) (hg : Gl X x) (tk : Takes X Wx) (ha : MA X Wx (e :: es) ea) (hk : MK X Wx kws ek) (hkl : ks.length = kl := by rfl)
    (hall : (backToKw pos (keywordEach kws X.env)).all (·.1.isSome) = true := by rfl) (hks : (backToKw pos (keywordEach kws X.env)).filterMap (·.1) = ks := by rfl) (hdb : (x == ("__debug__" : Str)) = false := by decide)
    (he : starEach (e :: es) X.env = (false, eval e X.env) :: starEach es X.env := by rfl)
    (hpl : ((backTo pos (starEach (e :: es) X.env)).any (·.1) || (backToKw pos (keywordEach kws X.env)).any (·.1.isNone)) = false := by rfl) :
    ME X Wx (.Call (.Name x p) (e :: es) kws pos) (eCallKn pm n kl g ea ek) := fun B => by
  subst hkl
  obtain ⟨f, fd, ps, h1, h2, h3, h4⟩ := F.ex
  refine ⟨fun pins s σ H Q J ⟨W, φ, ρ, M, I, q⟩ => ?_⟩
  refine wpAny_Call_Name_kw (ld_glob J hg h2 ?_ hdb)
  refine PySem.W.callWith_KW (h₀ := X.base) J.ok.mod.kin h3 hall (thn ((ha B).run pos pins s σ H _ J (ct_bind (R := RSs X.K) I q)) fun us s1 ⟨vs, H1, J1, r, W1, φ1, M1, ss, I1, st1, r1, q1⟩ => ?_) hpl he
  refine thn ((hk B).run pos pins s1 σ H1 _ J1 (ct_bind (R := RSs X.K) I1 q1)) fun ws s2 ⟨ys, H2, J2, rz, W2, φ2, M2, zs, I2, st2, r2, q2⟩ => ⟨J2.kIn, ?_⟩
  rw [hks]
  exact kw_tail F hc hr tk h1 h4 J2 r rz I2 (RSs.stb st2 r1) r2 q2
/-! ## repr of what is read -/
def repS : List S → Mh → REx S
  | [s], M => (match rdS 4 M s with
    | some d => if gd 40 d = true ∧ (toP d).showable = true ∧ (toP d).shown.length ≤ 16777216 ∧ scD d = false then .ok (.v (.str (toP d).shown)) M else .bad
    | none => .bad)
  | _, _ => .bad
theorem cm_repr (hg : X.A.guards = some []) (hu : X.A.units + 64 < cLine) : CallM X (.builtin "repr") repS := by
  intro B Wx pins s σ H xs us Q I rx ⟨σ', W, φ, ρ, M, ss, J, r1, q⟩
  cases r1 with
  | nil => exact q.elim
  | @cons s0 x ss xs r1 r2 =>
    cases r2 with
    | cons _ _ => exact q.elim
    | nil =>
      simp only [repS] at q
      cases e : rdS 4 M s0 with
      | none =>
        rw [e] at q
        exact q.elim
      | some d =>
        rw [e] at q
        simp only at q
        split at q
        · rename_i h
          obtain ⟨g1, g2, g3, g4⟩ := h
          obtain ⟨l1, l2⟩ := gd_lay 40 d g1
          have rd := rd_ok J 4 e r1
          obtain ⟨u, rfl, rv⟩ := vals1 rx
          obtain ⟨as, rr⟩ := Dp.reads I _ x _ (RV.dp 40 g1 rd) rv
          have fin : ∀ a, x = .ref a → wpAny (model X.prog X.w) X.A (call (.builtin "repr") [u]) (EP X pins σ Q) X.xe s := fun a ex => by
            subst ex
            cases rv
            exact repr_of_reads' rr g2 (fun z => by rw [PyData.hasDict_of_canLay _ l1] at z; cases z) hg (by omega) (fun b o z => z)
              (fun h' u tk hk => ⟨.str _, H, I.kept hk, ⟨_, rfl⟩, ct_ok (M := M) J q (.str _)⟩) (by rw [sizeLine_eq]; exact g3)
          cases rd with
          | tup _ _ => exact fin _ rfl
          | lst _ _ => exact fin _ rfl
          | dK _ _ _ _ _ => exact fin _ rfl
          | dT _ _ _ _ _ => exact fin _ rfl
          | adr _ => exact fin _ rfl
          | _ => cases g4
        · exact q.elim
/-! ## len(set(..)) of ints -/
def nDist : List Int → Nat
  | [] => 0
  | n :: ns => if n ∈ ns then nDist ns else nDist ns + 1
theorem nDist_of : ∀ (ns L : List Int), L.Nodup → (∀ k, k ∈ ns ↔ k ∈ L) → L.length = nDist ns
  | [], L, _, h => by
    cases L with
    | nil => rfl
    | cons a L => exact absurd ((h a).mpr List.mem_cons_self) (by simp)
  | n :: ns, L, nd, h => by
    unfold nDist
    by_cases hn : n ∈ ns
    · rw [if_pos hn]
      exact nDist_of ns L nd fun k => ⟨fun z => (h k).mp (List.mem_cons_of_mem _ z), fun z => by
        rcases List.mem_cons.mp ((h k).mpr z) with e | e
        · rw [e]
          exact hn
        · exact e⟩
    · rw [if_neg hn]
      have hL : n ∈ L := (h n).mp List.mem_cons_self
      have e := nDist_of ns (L.erase n) (nd.erase n) fun k => by
        rw [nd.mem_erase_iff, ← h k, List.mem_cons]
        constructor
        · exact fun z => ⟨fun q => hn (q ▸ z), .inr z⟩
        · exact fun z => z.2.resolve_left z.1
      have l := List.length_erase_of_mem hL
      have p : 0 < L.length := List.length_pos_of_mem hL
      omega
def tLs (K : PySem.W.Frag) (ta : TE) : TE := fun σ H Q => ta σ H fun x H1 => ∃ (l : Addr) (ns : List Int), x = .ref l ∧ SqT K H1 l (ns.map V.int) ∧ ns.length ≤ 1000 ∧ Q (.int (nDist ns : Nat)) H1
theorem intsAre_of : ∀ {ns : List Int} {us : List Value}, Vals (ns.map V.int) us → IntsAre us ns
  | [], _, .nil => .nil
  | n :: ns, _, .cons r t => by
    obtain ⟨k, rfl⟩ := r
    exact .cons n k (intsAre_of t)
theorem pe_lens {a : Expr} {ta : TE} {p p2 q pos : Pos} (hg : Gl X "len") (hm : X.mg "len" = none) (hg2 : Gl X "set") (hm2 : X.mg "set" = none) (ha : PE X a ta) (hc : X.calm = true := by rfl)
    (na : starEach [a] X.env = (false, eval a X.env) :: starEach [] X.env := by rfl) : PE X (.Call (.Name "len" p) [.Call (.Name "set" p2) [a] [] q] [] pos) (tLs X.K ta) := by
  refine ⟨fun pins s σ H Q I h => Call_ (ld_blt I hg hm boot_len ?_)⟩
  refine PyProof.Rows.callWith_builtin1 (PyProof.Rows.args_cons (Call_ (ld_blt I hg2 hm2 boot_set ?_)) rfl) rfl rfl
  refine PyProof.Rows.callWith_type1 (PyProof.Rows.args_cons (thn (ha.run pins s σ H _ I h) fun v s1 ⟨x, H1, J, rv, q1⟩ => PyProof.Rows.args_nil ?_) na) na rfl
  obtain ⟨l, ns, rfl, hq, few, q1⟩ := q1
  cases rv
  obtain ⟨its, r, tup, _⟩ := J.tuple hq
  refine call_set_tupI ns (J.ok.hd hc) tup (intsAre_of r) (by unfold scanBound; omega) fun h' tk c hS hcn hk => PyProof.Rows.args_nil ?_
  obtain ⟨o, es, ep, t, ho, hex, hd, ge, ndp, mem, _, fits, sz, _, _⟩ := hS
  have el : es.size = nDist ns := by
    have e := nDist_of ns (es.toList.map keyOf) ndp fun k => by rw [← mem k]; simp
    rw [List.length_map, Array.length_toList] at e
    exact e
  have J2 : Inv X pins σ H1 { s1 with heap := h', toks := tk } := J.kept hk
  exact call_len_set ho hex hd fits (by rw [sz]; omega) ⟨.int (nDist ns : Nat), H1, J2.tok _, ⟨_, by rw [el]⟩, q1⟩
def eLens (a : Em S) : Em S := eb a fun s => match s with
  | .v (.tup ds) => (match intsD ds with
    | some ns => if ns.length ≤ 1000 then er (.v (.int (nDist ns : Nat))) else eX
    | none => eX)
  | _ => eX
theorem me_lens {a : Expr} {ea : Em S} {p p2 q pos : Pos} (hg : Gl X "len") (hm : X.mg "len" = none) (hg2 : Gl X "set") (hm2 : X.mg "set" = none) (ha : ME X Wx a ea) (hc : X.calm = true := by rfl)
    (na : starEach [a] X.env = (false, eval a X.env) :: starEach [] X.env := by rfl) : ME X Wx (.Call (.Name "len" p) [.Call (.Name "set" p2) [a] [] q] [] pos) (eLens ea) := fun B =>
  pe_imp (pe_lens hg hm hg2 hm2 (ha B) hc na) fun σ H Q ⟨W, φ, ρ, M, I, h⟩ => by
    refine tl_mono (ct_bind (R := RS X.K) I h) fun x H1 ⟨W1, φ1, M1, s, I1, st1, r1, h1⟩ => ?_
    cases s with
    | r n => exact h1.elim
    | v d =>
      cases r1 with
      | tup hq rs =>
        simp only at h1
        cases e : intsD _ with
        | none =>
          rw [e] at h1
          exact h1.elim
        | some ns =>
          rw [e] at h1
          simp only at h1
          split at h1
          · rename_i few
            have e2 := intsD_ok e rs
            rw [e2] at hq
            exact ⟨_, ns, rfl, hq.sq, few, ct_ok (M := M1) I1 h1 (.int _)⟩
          · exact h1.elim
      | _ => exact h1.elim
end
end Md
end
section
namespace Md
open PySem PySem.Spec PyProof.Rows L2
section
variable {X : Cx} {Wx : WX} {k : Nat}
def sBk : Sm := fun ρ M => .bk ρ M
def sCt : Sm := fun ρ M => .ct ρ M
/-- not reached -/
theorem ms_bad {st : Stmt} : MS X Wx k st (fun _ _ => .bad) := fun B hB => ⟨fun pins s σ H E I ⟨_, _, _, _, _, h⟩ => h.elim⟩
def in2D (a b : D) : Option D := match b with
  | .str _ => inSg a b
  | _ => inD a b
theorem op_in2D (hu : X.A.units + 65 < cLine) : OpM X (compareOp .In) (onD in2D) := op_in2 hu
/-- a module's tuple of plain values -/
def dvD : He.Dv → Option D
  | .non => some .non
  | .bl b => some (.bl b)
  | .int i => some (.int i)
  | .str x => some (.str x)
  | _ => none
def dvDs : List He.Dv → Option (List D)
  | [] => some []
  | v :: vs => (match dvD v, dvDs vs with
    | some d, some ds => some (d :: ds)
    | _, _ => none)
theorem dvD_ok {K : PySem.W.Frag} {W : Addr → Prop} {H : Hp} {v : He.Dv} {d : D} (e : dvD v = some d) : RV K W H d (v.v K) := by
  cases v with
  | non => cases e; exact .non
  | bl b => cases e; exact .bl b
  | int i => cases e; exact .int i
  | str x => cases e; exact .str x
  | _ => cases e
theorem dvDs_ok {K : PySem.W.Frag} {W : Addr → Prop} {H : Hp} : ∀ {vs : List He.Dv} {ds : List D}, dvDs vs = some ds → RVs K W H ds (vs.map (He.Dv.v K))
  | [], _, e => by
    cases e
    exact .nil
  | v :: vs, _, e => by
    simp only [dvDs] at e
    cases h1 : dvD v with
    | none =>
      rw [h1] at e
      cases e
    | some d =>
      cases h2 : dvDs vs with
      | none =>
        rw [h1, h2] at e
        cases e
      | some ds =>
        rw [h1, h2] at e
        cases e
        exact .cons (dvD_ok h1) (dvDs_ok h2)
theorem me_gtupB {x : Str} {vs : List He.Dv} {ds : List D} {pos : Pos} (hg : Gl X x) (hm : X.mg x = some (.ref (He.ga X.K x))) (ht : He.tupB X.K x vs = true) (hd : dvDs vs = some ds) (hdb : (x == ("__debug__" : Str)) = false := by decide) : ME X Wx (.Name x pos) (er (.v (.tup ds))) := by
  have kt : KT X.K (He.ga X.K x) (vs.map (He.Dv.v X.K)) := by
    rcases He.tupB_ok ht (fun _ => none) with h | h
    · rcases h with h | ⟨o, h⟩ <;> cases (show (none : Option HO) = _ from h)
    · exact h
  exact me_gtup hg hm kt (fun _ _ => dvDs_ok hd) hdb
/-! ## list + list -/
theorem op_catQ : OpR X (binaryOp .Add) (fun x y H Q => ∃ l b xs zs, x = .ref l ∧ y = .ref b ∧ SqL X.K H l xs ∧ SqL X.K H b zs ∧ xs.length + zs.length ≤ sizeLine ∧ ∀ p, H p = none → Q (.ref p) (upd H p (.lst (xs ++ zs)))) := by
  intro pins s σ H x y v u Q I rx ry h
  obtain ⟨l, b, xs, zs, rfl, rfl, h1, h2, few, q⟩ := h
  cases rx
  cases ry
  obtain ⟨is1, r1, ⟨⟨c1, d1, t1, sl1⟩, n1, o1, hc1, hd1, hs1⟩, _⟩ := I.list h1
  obtain ⟨is2, r2, ⟨⟨c2, d2, t2, sl2⟩, n2, o2, hc2, hd2, hs2⟩, _⟩ := I.list h2
  simp only at hc1 hd1 hs1 hc2 hd2 hs2
  subst hc1 hd1 hs1 hc2 hd2 hs2
  have sz : is1.toArray.size + is2.toArray.size ≤ sizeLine := by
    rw [List.size_toArray, List.size_toArray, ← r1.length, ← r2.length]
    exact few
  refine concat_meets ⟨_, o1, rfl⟩ ⟨_, o2, rfl⟩ noFill_list_add seq_list_add PySem.F.slot_list_add PySem.F.entry_list_add (PySem.F.args_list_add_2 _ _) (list_addW l b is1.toArray is2.toArray n1 n2 none none sl1 sl2 sz) ⟨o1, o2, ?_⟩
  rw [show is1.toArray ++ is2.toArray = (is1 ++ is2).toArray by simp]
  exact ⟨.ref _, _, I.lnew (t' := s.toks) (r1.append r2) (by rw [List.length_append]; exact few), rfl, q _ I.fresh⟩
def eAddL (a b : Em S) : Em (List D) := eb a fun s => eb b fun t => fun _ M => match lstS s M, lstS t M with
  | some xs, some ys => if xs.length + ys.length ≤ 16777216 then .ok (xs ++ ys) M else .bad
  | _, _ => .bad
theorem mf_add {a b : Expr} {ea ec : Em S} {pos : Pos} (ha : ME X Wx a ea) (hb : ME X Wx b ec) : MF X Wx (.BinOp a .Add b pos) (eAddL ea ec) := fun B =>
  pe_imp (pe_op op_catQ (ha B) (hb B)) fun σ H Q ⟨W, φ, ρ, M, I, q⟩ => by
    refine tl_mono (ct_bindF (R := RS X.K) I q) fun x H1 ⟨W1, φ1, M1, s, I1, st1, r1, q1⟩ => ?_
    refine tl_mono (ct_bindF (R := RS X.K) I1 q1) fun y H2 ⟨W2, φ2, M2, t, I2, st2, r2, q2⟩ => ?_
    cases e1 : lstS s M2 with
    | none =>
      rw [e1] at q2
      exact q2.elim
    | some xs =>
      cases e2 : lstS t M2 with
      | none =>
        rw [e1, e2] at q2
        exact q2.elim
      | some ys =>
        rw [e1, e2] at q2
        simp only at q2
        split at q2
        · rename_i few
          obtain ⟨l, vs, rfl, g1, g2⟩ := lstS_ok I2 (r1.stb st2) e1
          obtain ⟨b', us, rfl, g3, g4⟩ := lstS_ok I2 r2 e2
          exact ⟨l, b', vs, us, rfl, rfl, g1, g3, by rw [← g2.length, ← g4.length, sizeLine_eq]; exact few, fun p hp => ctF_ok (M := M2) I2 q2 hp (RVs.append g2 g4)⟩
        · exact q2.elim
end
end Md
end
section
namespace Md
open PySem PySem.Spec PyProof.Rows L2
/-! ## mirrors, step by step -/
theorem run_eq {k n N : Nat} {ex : Xt} {b : Sm} {ss : List S} {M : Mh} (h : M.length = k ∧ ss.length = n) : Md.run k n N ex b ss M = ex (b (padR N ss) M) := if_pos h
section
variable {ρ ρ1 ρ2 : Rho} {M M1 M2 M3 : Mh}
theorem e_bind {α β : Type} {e : Em α} {k : α → Em β} {a : α} {r : REx β} (h1 : e ρ M = .ok a M1) (h2 : k a ρ M1 = r) : eb e k ρ M = r := by
  unfold eb
  rw [h1]
  exact h2
theorem e_opD {f : D → D → Option D} {ea ec : Em S} {a b d : D} (h1 : ea ρ M = .ok (.v a) M1) (h2 : ec ρ M1 = .ok (.v b) M2) (h3 : f a b = some d) : eOp2 (onD f) ea ec ρ M = .ok (.v d) M2 :=
  e_bind h1 (e_bind h2 (by simp only [onD, h3, eD]))
theorem e_op2 {g : S → S → Mh → REx S} {ea ec : Em S} {s t : S} {r : REx S} (h1 : ea ρ M = .ok s M1) (h2 : ec ρ M1 = .ok t M2) (h3 : g s t M2 = r) : eOp2 g ea ec ρ M = r := e_bind h1 (e_bind h2 h3)
theorem e_ixD {ea ec : Em S} {a b d : D} (h1 : ea ρ M = .ok (.v a) M1) (h2 : ec ρ M1 = .ok (.v b) M2) (h3 : ixD a b = some d) : eOp2 ixS ea ec ρ M = .ok (.v d) M2 :=
  e_op2 h1 h2 (by simp only [ixS, h3, eD])
theorem e_cons {ea : Em S} {er' : Em (List S)} {s : S} {ss : List S} (h1 : ea ρ M = .ok s M1) (h2 : er' ρ M1 = .ok ss M2) : eCons ea er' ρ M = .ok (s :: ss) M2 := e_bind h1 (e_bind h2 rfl)
theorem e_nil : eNil ρ M = .ok [] M := rfl
theorem e_one {ea : Em S} {s : S} (h1 : ea ρ M = .ok s M1) : eCons ea eNil ρ M = .ok [s] M1 := e_cons h1 rfl
theorem e_two {ea ec : Em S} {s t : S} (h1 : ea ρ M = .ok s M1) (h2 : ec ρ M1 = .ok t M2) : eCons ea (eCons ec eNil) ρ M = .ok [s, t] M2 := e_cons h1 (e_one h2)
theorem e_call {g : List S → Mh → REx S} {a : Em (List S)} {ss : List S} {r : REx S} (h1 : a ρ M = .ok ss M1) (h2 : g ss M1 = r) : eCall g a ρ M = r := e_bind h1 h2
theorem frz_map (ds : List D) : frzS (ds.map .v) = some ds := frzS_map ds
theorem e_lst {a : Em (List S)} {ss : List S} {ds : List D} (h1 : a ρ M = .ok ss M1) (h2 : frzS ss = some ds) (h3 : ds.length ≤ 16777216) : eLst a ρ M = .ok ds M1 :=
  e_bind h1 (by simp only [h2, if_pos h3]; rfl)
theorem e_fz {em : Em (List D)} {ds : List D} (h : em ρ M = .ok ds M1) : eFz em ρ M = .ok (.v (.lst ds)) M1 := e_bind h rfl
theorem e_own {em : Em (List D)} {ds : List D} (h : em ρ M = .ok ds M1) : eOwn em ρ M = .ok (.r M1.length) (M1 ++ [some (.lst (ds.map .v))]) := e_bind h rfl
theorem e_tup {a : Em (List S)} {ss : List S} {ds : List D} (h1 : a ρ M = .ok ss M1) (h2 : frzS ss = some ds) (h3 : ds.length ≤ 16777216) : eTup a ρ M = .ok (.v (.tup ds)) M1 :=
  e_bind h1 (by simp only [h2, if_pos h3]; rfl)
theorem e_lstO {a : Em (List S)} {ss : List S} (h1 : a ρ M = .ok ss M1) (h3 : ss.length ≤ 16777216) : eLstO a ρ M = .ok (.r M1.length) (M1 ++ [some (.lst ss)]) :=
  e_bind h1 (by simp only [if_pos h3])
theorem e_meL {g : S → List S → Mh → REx S} {o : Em S} {a : Em (List S)} {s : S} {ss : List S} {r : REx S} (h1 : o ρ M = .ok s M1) (h2 : isL s M1 = true) (h3 : a ρ M1 = .ok ss M2) (h4 : g s ss M2 = r) : eMeL g o a ρ M = r :=
  e_bind h1 (by simp only [if_pos h2]; exact e_bind h3 h4)
theorem e_ifT {t : Em Bool} {a b : Em S} {r : REx S} (h1 : t ρ M = .ok true M1) (h2 : a ρ M1 = r) : eIf t a b ρ M = r := e_bind h1 h2
theorem e_ifF {t : Em Bool} {a b : Em S} {r : REx S} (h1 : t ρ M = .ok false M1) (h2 : b ρ M1 = r) : eIf t a b ρ M = r := e_bind h1 h2
theorem t_test {e : Em S} {c : Bool} (h : e ρ M = .ok (.v (.bl c)) M1) : eTest e ρ M = .ok c M1 := e_bind h rfl
theorem t_not {t : Em Bool} {c : Bool} (h : t ρ M = .ok c M1) : eNotT t ρ M = .ok (!c) M1 := e_bind h rfl
theorem t_andT {a b : Em Bool} {r : REx Bool} (h : a ρ M = .ok true M1) (h2 : b ρ M1 = r) : eAndT a b ρ M = r := e_bind h h2
theorem t_andF {a b : Em Bool} (h : a ρ M = .ok false M1) : eAndT a b ρ M = .ok false M1 := e_bind h rfl
theorem t_orT {a b : Em Bool} (h : a ρ M = .ok true M1) : eOrT a b ρ M = .ok true M1 := e_bind h rfl
theorem t_orF {a b : Em Bool} {r : REx Bool} (h : a ρ M = .ok false M1) (h2 : b ρ M1 = r) : eOrT a b ρ M = r := e_bind h h2
theorem e_andT {a b : Em S} {r : REx S} (h : a ρ M = .ok (.v (.bl true)) M1) (h2 : b ρ M1 = r) : eAnd a b ρ M = r := e_bind h h2
theorem e_andF {a b : Em S} (h : a ρ M = .ok (.v (.bl false)) M1) : eAnd a b ρ M = .ok (.v (.bl false)) M1 := e_bind h rfl
theorem e_eqR {f : D → D → Option Bool} {ea ec : Em S} {s t : S} {a b : D} {c : Bool} (h1 : ea ρ M = .ok s M1) (h2 : ec ρ M1 = .ok t M2) (h3 : rdS 4 M2 s = some a) (h4 : rdS 4 M2 t = some b) (h5 : f a b = some c) : eOp2 (onR f) ea ec ρ M = .ok (.v (.bl c)) M2 :=
  e_op2 h1 h2 (by simp only [onR, h3, h4, h5])
/-! statements -/
theorem s_seq {a b : Sm} {r : RSt} (h1 : a ρ M = .nx ρ1 M1) (h2 : b ρ1 M1 = r) : sSeq a b ρ M = r := by
  unfold sSeq
  rw [h1]
  exact h2
theorem s_seqR {a b : Sm} {s : S} (h1 : a ρ M = .rt s M1) : sSeq a b ρ M = .rt s M1 := by
  unfold sSeq
  rw [h1]
theorem s_set {i : Nat} {e : Em S} {s : S} (h : e ρ M = .ok s M1) : sSet i e ρ M = .nx (ρ.set i (some s)) M1 := by
  unfold sSet sB
  rw [h]
theorem s_ex {e : Em S} {s : S} (h : e ρ M = .ok s M1) : sEx e ρ M = .nx ρ M1 := by
  unfold sEx sB
  rw [h]
  rfl
theorem s_ret {e : Em S} {s : S} (h : e ρ M = .ok s M1) : sRet e ρ M = .rt s M1 := by
  unfold sRet sB
  rw [h]
theorem s_ifT {t : Em Bool} {a b : Sm} {r : RSt} (h1 : t ρ M = .ok true M1) (h2 : a ρ M1 = r) : sIf t a b ρ M = r := by
  unfold sIf sB
  rw [h1]
  exact h2
theorem s_ifF {t : Em Bool} {a b : Sm} {r : RSt} (h1 : t ρ M = .ok false M1) (h2 : b ρ M1 = r) : sIf t a b ρ M = r := by
  unfold sIf sB
  rw [h1]
  exact h2
theorem s_kill {is : List Nat} {a : Sm} (h : a ρ M = .nx ρ1 M1) : sKill is a ρ M = .nx (killR is ρ1) M1 := by
  unfold sKill
  rw [h]
theorem s_asg {g : Tg} {e : Em S} {s : S} (h : e ρ M = .ok s M1) (h2 : g s ρ M1 = some ρ1) : sAsg g e ρ M = .nx ρ1 M1 := by
  unfold sAsg sB
  rw [h]
  simp only [h2]
theorem s_setix {o i e : Em S} {v s k : S} {n j : Nat} {xs : List S} (h1 : e ρ M = .ok v M1) (h2 : o ρ M1 = .ok s M2) (h3 : i ρ M2 = .ok k M3) (h4 : ixM s k M3 = some (n, xs, j)) : sSetIx o i e ρ M = .nx ρ (M3.set n (some (.lst (xs.set j v)))) := by
  unfold sSetIx sB
  simp only [h1, h2, h3, h4]
theorem s_for {it : Em (List D)} {g : Tg} {b : Sm} {items : List D} {r : RSt} (h : it ρ M = .ok items M1) (h2 : forL g b items ρ M1 = r) : sFor it g b ρ M = r := by
  unfold sFor sB
  rw [h]
  exact h2
theorem f_nil {g : Tg} {b : Sm} : forL g b [] ρ M = .nx ρ M := rfl
theorem f_cons {g : Tg} {b : Sm} {d : D} {ds : List D} {r : RSt} (h1 : g (.v d) ρ M = some ρ1) (h2 : b ρ1 M = .nx ρ2 M2) (h3 : forL g b ds ρ2 M2 = r) : forL g b (d :: ds) ρ M = r := by
  simp only [forL, h1, h2]
  exact h3
/-- a loop whose body keeps to a relation: J so far, by the number of items passed -/
theorem f_inv {g : Tg} {b : Sm} (J : Nat → Rho → Mh → Prop) : ∀ {ds : List D} {k : Nat} {ρ : Rho} {M : Mh}, J k ρ M →
    (∀ i d ρ M, ds[i]? = some d → J (k + i) ρ M → ∃ ρ1 ρ2 M2, g (.v d) ρ M = some ρ1 ∧ b ρ1 M = .nx ρ2 M2 ∧ J (k + i + 1) ρ2 M2) → ∃ ρ' M', forL g b ds ρ M = .nx ρ' M' ∧ J (k + ds.length) ρ' M'
  | [], k, ρ, M, h, _ => ⟨ρ, M, rfl, h⟩
  | d :: ds, k, ρ, M, h, step => by
    obtain ⟨ρ1, ρ2, M2, h1, h2, h3⟩ := step 0 d ρ M rfl h
    obtain ⟨ρ', M', h4, h5⟩ := f_inv J (ds := ds) (k := k + 1) h3 fun i e r N he hJ => by
      have q := step (i + 1) e r N (by simpa using he) (by rw [show k + (i + 1) = k + 1 + i by omega]; exact hJ)
      rw [show k + (i + 1) + 1 = k + 1 + i + 1 by omega] at q
      exact q
    refine ⟨ρ', M', f_cons h1 h2 h4, ?_⟩
    rw [List.length_cons, show k + (ds.length + 1) = k + 1 + ds.length by omega]
    exact h5
/-- a comprehension whose elements keep to a relation: J what is made so far -/
theorem c_inv {g : Tg} {t : Em Bool} {e : Em S} (J : List D → Mh → Prop) : ∀ {ds acc : List D} {M : Mh}, J acc M →
    (∀ i acc' d M, ds[i]? = some d → acc'.length = acc.length + i → J acc' M → ∃ ρ1 y M2, g (.v d) ρ M = some ρ1 ∧ t ρ1 M = .ok true M ∧ e ρ1 M = .ok (.v y) M2 ∧ J (acc' ++ [y]) M2) → ∃ ys M', lcL ρ g t e ds M = .ok ys M' ∧ ys.length = ds.length ∧ J (acc ++ ys) M'
  | [], acc, M, h, _ => ⟨[], M, rfl, rfl, by rw [List.append_nil]; exact h⟩
  | d :: ds, acc, M, h, step => by
    obtain ⟨ρ1, y, M2, h1, h2, h3, h4⟩ := step 0 acc d M rfl rfl h
    obtain ⟨ys, M', h5, h7, h6⟩ := c_inv J (ds := ds) (acc := acc ++ [y]) h4 fun i p e N he hl hJ => step (i + 1) p e N (by simpa using he) (by rw [hl, List.length_append]; simp; omega) hJ
    refine ⟨y :: ys, M', by simp only [lcL, h1, h2, h3, h5], by simp [h7], ?_⟩
    rw [List.append_assoc] at h6
    exact h6
theorem e_lc {it : Em (List D)} {vs : List Nat} {g : Tg} {t : Em Bool} {e : Em S} {items : List D} {r : REx (List D)} (h1 : it ρ M = .ok items M1) (h2 : items.length ≤ 16777216) (h3 : lcL (killR vs ρ) g t e items M1 = r) : eLc it vs g t e ρ M = r := by
  unfold eLc
  rw [h1]
  simp only [if_pos h2]
  exact h3
/-- elements that alter nothing -/
theorem lcL_map {α : Type} {g : Tg} {t : Em Bool} {e : Em S} {enc f : α → D} : ∀ {xs : List α}, (∀ x ∈ xs, ∃ ρ1, g (.v (enc x)) ρ M = some ρ1 ∧ t ρ1 M = .ok true M ∧ e ρ1 M = .ok (.v (f x)) M) → lcL ρ g t e (xs.map enc) M = .ok (xs.map f) M
  | [], _ => rfl
  | x :: xs, h => by
    obtain ⟨ρ1, h1, h2, h3⟩ := h x List.mem_cons_self
    have ih := lcL_map (xs := xs) fun y hy => h y (List.mem_cons_of_mem _ hy)
    simp only [List.map_cons, lcL, h1, h2, h3, ih]
theorem eLc_map {α : Type} {it : Em (List D)} {vs : List Nat} {g : Tg} {t : Em Bool} {e : Em S} {enc f : α → D} (xs : List α) (hi : it ρ M = .ok (xs.map enc) M1) (hl : xs.length ≤ 16777216)
    (h : ∀ x ∈ xs, ∃ ρ1, g (.v (enc x)) (killR vs ρ) M1 = some ρ1 ∧ t ρ1 M1 = .ok true M1 ∧ e ρ1 M1 = .ok (.v (f x)) M1) : eLc it vs g t e ρ M = .ok (xs.map f) M1 :=
  e_lc hi (by rw [List.length_map]; exact hl) (lcL_map h)
end
/-- a call of a def that changes the first own object, among others -/
theorem gB_of {m : Mf} {o o' : MO} {rest : List S} {d : D} (h : m (.r 0 :: rest) [some o] = .ok (.v d) [some o']) (f : flatO o = true) (f' : flatO o' = true) (v : allV rest = true) (M : Mh) : gB m (.r 0 :: rest) (some o :: M) = .ok (.v d) (some o' :: M) := by
  simp [gB, v, f, h, f']
theorem gBr_of {m : Mf} {ss : List S} {M : Mh} {ds : List D} {d : D} (h1 : rdL (rdS 4 M) ss = some ds) (h : m (ds.map .v) [] = .ok (.v d) []) (v : scD d = true) : gBr m ss M = .ok (.v d) M := by
  simp only [gBr, h1, h, v]
  rfl
theorem gP_of {m : Mf} {ss : List S} {d : D} (h : m ss [] = .ok (.v d) []) (v : allV ss = true) (M : Mh) : gP m ss M = .ok (.v d) M := by
  simp [gP, v, h]
theorem rng1_nat {k : Nat} (h : k < 4294967296) : rng1 [.v (.int (k : Int))] = some (rngD 0 k) := by
  have g : -4294967296 ≤ (k : Int) ∧ (k : Int) < 4294967296 := by omega
  show (if -4294967296 ≤ (k : Int) ∧ (k : Int) < 4294967296 then some (rngD 0 (k : Int).toNat) else none) = _
  rw [if_pos g, Int.toNat_natCast]
theorem it_rng1 {a : Em (List S)} {ρ : Rho} {M M1 : Mh} {k : Nat} (h1 : a ρ M = .ok [.v (.int (k : Int))] M1) (h : k < 4294967296) : eItL rng1 a ρ M = .ok (rngD 0 k) M1 :=
  e_bind h1 (by simp only [rng1_nat h]; rfl)
theorem len_rngD (k : Nat) : (rngD 0 k).length = k := by simp [rngD]
theorem rngD_at {k i : Nat} {d : D} (h : (rngD 0 k)[i]? = some d) : i < k ∧ d = .int (i : Int) := by
  have l := (List.getElem?_eq_some_iff.mp h).1
  rw [len_rngD] at l
  refine ⟨l, ?_⟩
  unfold rngD at h
  rw [List.getElem?_map, List.getElem?_range l] at h
  simpa using h.symm
end Md
end
section
namespace Md
open PySem PySem.Spec PyProof.Rows L2
theorem rvs_ints {K : PySem.W.Frag} {W : Addr → Prop} {H : Hp} : ∀ ns : List Int, RVs K W H (ns.map .int) (ns.map V.int)
  | [] => .nil
  | n :: ns => .cons (.int n) (rvs_ints ns)
/-- a law's mirror tells true: its contract is kept -/
theorem spec_law {K : PySem.W.Frag} {m : Mf} {H : Hp} {a : Addr} {ns : List Int} (h : m [.v (.lst (ns.map .int))] [] = .ok (.v (.bl true)) []) (hS : SqL K H a (ns.map V.int)) : spM K m [.ref a] H (fun v _ => v = .bl true) fun _ _ _ => False := by
  have sq : SqLw K (fun _ => False) H a (ns.map V.int) := by
    rcases hS with q | q
    · exact .inl ⟨fun z => z, q⟩
    · exact .inr q
  refine ⟨fun _ => False, [], [.v (.lst (ns.map .int))], [], ?_, .cons (.lst sq (rvs_ints ns)) .nil, ?_⟩
  · exact ⟨rfl, fun i j b e => by simp at e, fun i b e => by simp at e, fun b z => z.elim, fun i o e => by simp at e, fun _ z => z, fun _ z => .inl z, fun _ _ e _ => e, fun i b e => by simp at e, fun i b _ e => by simp at e, fun i s e => by simp at e, rfl, fun b z => z.elim, fun b h => by simp at h⟩
  · rw [h]
    intro W' φ' H' x J r
    cases (show RV K W' H' (.bl true) x from r)
    rfl
section
variable {P : Program} {K : PySem.W.Frag} {mg : Str → Option Value} {fa : List He.Fa} {fn : List He.DefD} {ex : PySem.W.Frag → Bool}
/-- what walk_M asks of a law -/
theorem law_facts {d : He.DefD} {N : List Str} {lv n : Nat} {sm : Sm} {w : World} {ff : Addr} {h : Heap} (hin : K.In h) (Y : Fx fa fn ex K mg) (i j : Nat) (hi : fn[i]? = some d := by rfl) (hj : fa[j]? = some (.glo "law") := by rfl) (hat : d.at_ = (("law" : Str), none) := by rfl) (hd : d.dfl = [] := by rfl)
    (hmg : mg ("law" : Str) = some (.ref ff)) (Sc : FnScope N ["script"] d.scope) (hb : ∀ (kV doc pm : Value) (an : Option Addr) (cdv ct : Value) (us : List Value), us.length = 1 → bindArgs (PySem.W.fnOf d.name d.qual d.params d.body d.scope .none kV doc pm an cdv ct) ⟨us, []⟩ = pure ((["script"] : List Str).zip us))
    (body : ∀ (base : Heap) (f : Addr) (cdv : Value) (A : Around) (outer : List Env) (s : Shared) (H : Hp) (E : XK), RoomG lv (A.deeper (envOfC d.qual d.scope s.heap.objs.size f cdv)) →
      MSs (cxOf (L2.CX P w) P w K mg base N d.qual d.scope f cdv A outer s H E) (fun cls d _ H => E cls d H) 0 d.body sm)
    (good : ∀ zs : List Int, zs.length ≤ n → (∀ z ∈ zs, Builtin.Int.intBits z ≤ 1048576) → run 0 1 N.length (xtF 0) sm [.v (.lst (zs.map .int))] [] = .ok (.v (.bl true)) []) :
    ∃ (K : PySem.W.Frag) (fd : FuncData) (sp : Sp), K.In h ∧ (∀ (s : Shared) (u : Value), BindsTo s fd ⟨[u], []⟩ [("script", u)]) ∧
      (∀ (H : Hp) (a : Addr) (ns : List Int), ns.length ≤ n → (∀ z ∈ ns, Builtin.Int.intBits z ≤ 1048576) → Only H → SqL K H a (ns.map V.int) → sp [.ref a] H (fun v _ => v = .bl true) fun _ _ _ => False) ∧
      ∀ base : Heap, K.In base → base.Ns mainGlobals mg → FnG P w K mg base (lv + 1) ff fd ["script"] sp := by
  obtain ⟨fd, F⟩ := Y.c.def_ i hi
  have ef : He.fAd K d.at_ = He.ga K "law" := by rw [hat] <;> rfl
  have ed : d.dvs K = [] := by
    unfold He.DefD.dvs
    rw [hd] <;> rfl
  rw [ed] at F
  have e2 := Y.glo j hj
  rw [hmg] at e2
  have e3 : ff = He.fAd K d.at_ := by
    rw [ef]
    injection e2 with e2
    injection e2
  have bb := FunD.bindsA (ps := ["script"]) F hb
  refine ⟨K, fd, spM K (run 0 1 N.length (xtF 0) sm), hin, fun s v => bb s [v] rfl, fun H a ns hl hbits _ hS => spec_law (good ns hl hbits) hS, fun base _ _ => ?_⟩
  rw [e3]
  exact fn_ok (ps := ["script"]) F Sc (xtF_ok 0) (body base (He.fAd K d.at_))
end
end Md
end
section
namespace K45
open PySem PySem.Spec PyProof.Rows L2 Md
abbrev R : PySem.W.OpenRow := PySem.W.OpenLaw.row PySem.Challenge.rw_onemore_k45_yards_standings_days_written
def top (i : Nat) : Stmt := PySem.Challenge.pw_onemore_k45_yards_standings_days_written.main.body.getD i (.Pass ⟨0, 0, 0, 0⟩)
abbrev s_is_amount : Stmt := top 8
def d_is_amount : He.DefD := ⟨("is_amount", none), "is_amount", "is_amount", defArgs s_is_amount, defBody s_is_amount, defScope s_is_amount, [], []⟩
abbrev s_is_yard : Stmt := top 9
def d_is_yard : He.DefD := ⟨("is_yard", none), "is_yard", "is_yard", defArgs s_is_yard, defBody s_is_yard, defScope s_is_yard, [], []⟩
abbrev s_is_place : Stmt := top 10
def d_is_place : He.DefD := ⟨("is_place", none), "is_place", "is_place", defArgs s_is_place, defBody s_is_place, defScope s_is_place, [], []⟩
abbrev s_are_places : Stmt := top 11
def d_are_places : He.DefD := ⟨("are_places", none), "are_places", "are_places", defArgs s_are_places, defBody s_are_places, defScope s_are_places, [], []⟩
abbrev s_is_ask : Stmt := top 12
def d_is_ask : He.DefD := ⟨("is_ask", none), "is_ask", "is_ask", defArgs s_is_ask, defBody s_is_ask, defScope s_is_ask, [], []⟩
abbrev s_is_day : Stmt := top 13
def d_is_day : He.DefD := ⟨("is_day", none), "is_day", "is_day", defArgs s_is_day, defBody s_is_day, defScope s_is_day, [], []⟩
abbrev s_need_yard : Stmt := top 14
def d_need_yard : He.DefD := ⟨("need_yard", none), "need_yard", "need_yard", defArgs s_need_yard, defBody s_need_yard, defScope s_need_yard, [], []⟩
abbrev s_are_amounts : Stmt := top 19
def d_are_amounts : He.DefD := ⟨("are_amounts", none), "are_amounts", "are_amounts", defArgs s_are_amounts, defBody s_are_amounts, defScope s_are_amounts, [], []⟩
abbrev s_joined : Stmt := top 20
def d_joined : He.DefD := ⟨("joined", none), "joined", "joined", defArgs s_joined, defBody s_joined, defScope s_joined, [], []⟩
abbrev s_show_yard : Stmt := top 21
def d_show_yard : He.DefD := ⟨("show_yard", none), "show_yard", "show_yard", defArgs s_show_yard, defBody s_show_yard, defScope s_show_yard, [], []⟩
abbrev s_show_standing : Stmt := top 22
def d_show_standing : He.DefD := ⟨("show_standing", none), "show_standing", "show_standing", defArgs s_show_standing, defBody s_show_standing, defScope s_show_standing, [], []⟩
abbrev s_show_day : Stmt := top 23
def d_show_day : He.DefD := ⟨("show_day", none), "show_day", "show_day", defArgs s_show_day, defBody s_show_day, defScope s_show_day, [], []⟩
abbrev s_need_text : Stmt := top 24
def d_need_text : He.DefD := ⟨("need_text", none), "need_text", "need_text", defArgs s_need_text, defBody s_need_text, defScope s_need_text, [], []⟩
abbrev s_parts_of : Stmt := top 25
def d_parts_of : He.DefD := ⟨("parts_of", none), "parts_of", "parts_of", defArgs s_parts_of, defBody s_parts_of, defScope s_parts_of, [], []⟩
abbrev s_number_in : Stmt := top 26
def d_number_in : He.DefD := ⟨("number_in", none), "number_in", "number_in", defArgs s_number_in, defBody s_number_in, defScope s_number_in, [], []⟩
abbrev s_numbers_in : Stmt := top 27
def d_numbers_in : He.DefD := ⟨("numbers_in", none), "numbers_in", "numbers_in", defArgs s_numbers_in, defBody s_numbers_in, defScope s_numbers_in, [], []⟩
abbrev s_two_in : Stmt := top 28
def d_two_in : He.DefD := ⟨("two_in", none), "two_in", "two_in", defArgs s_two_in, defBody s_two_in, defScope s_two_in, [], []⟩
abbrev s_read_yard : Stmt := top 29
def d_read_yard : He.DefD := ⟨("read_yard", none), "read_yard", "read_yard", defArgs s_read_yard, defBody s_read_yard, defScope s_read_yard, [], []⟩
abbrev s_read_standing : Stmt := top 30
def d_read_standing : He.DefD := ⟨("read_standing", none), "read_standing", "read_standing", defArgs s_read_standing, defBody s_read_standing, defScope s_read_standing, [], []⟩
abbrev s_ask_in : Stmt := top 31
def d_ask_in : He.DefD := ⟨("ask_in", none), "ask_in", "ask_in", defArgs s_ask_in, defBody s_ask_in, defScope s_ask_in, [], []⟩
abbrev s_read_day : Stmt := top 32
def d_read_day : He.DefD := ⟨("read_day", none), "read_day", "read_day", defArgs s_read_day, defBody s_read_day, defScope s_read_day, [], []⟩
abbrev s__law_cart : Stmt := top 34
def d__law_cart : He.DefD := ⟨("_law_cart", none), "_law_cart", "_law_cart", defArgs s__law_cart, defBody s__law_cart, defScope s__law_cart, [], []⟩
abbrev s__law_pull : Stmt := top 35
def d__law_pull : He.DefD := ⟨("_law_pull", none), "_law_pull", "_law_pull", defArgs s__law_pull, defBody s__law_pull, defScope s__law_pull, [], []⟩
abbrev s__law_rooms : Stmt := top 36
def d__law_rooms : He.DefD := ⟨("_law_rooms", none), "_law_rooms", "_law_rooms", defArgs s__law_rooms, defBody s__law_rooms, defScope s__law_rooms, [], []⟩
abbrev s__law_things : Stmt := top 37
def d__law_things : He.DefD := ⟨("_law_things", none), "_law_things", "_law_things", defArgs s__law_things, defBody s__law_things, defScope s__law_things, [], []⟩
abbrev s__law_some : Stmt := top 38
def d__law_some : He.DefD := ⟨("_law_some", none), "_law_some", "_law_some", defArgs s__law_some, defBody s__law_some, defScope s__law_some, [], []⟩
abbrev s__law_asks : Stmt := top 39
def d__law_asks : He.DefD := ⟨("_law_asks", none), "_law_asks", "_law_asks", defArgs s__law_asks, defBody s__law_asks, defScope s__law_asks, [], []⟩
abbrev s__law_put_by : Stmt := top 40
def d__law_put_by : He.DefD := ⟨("_law_put_by", none), "_law_put_by", "_law_put_by", defArgs s__law_put_by, defBody s__law_put_by, defScope s__law_put_by, [], []⟩
abbrev s__law_texts : Stmt := top 41
def d__law_texts : He.DefD := ⟨("_law_texts", none), "_law_texts", "_law_texts", defArgs s__law_texts, defBody s__law_texts, defScope s__law_texts, [], []⟩
abbrev s__law_made : Stmt := top 42
def d__law_made : He.DefD := ⟨("_law_made", none), "_law_made", "_law_made", defArgs s__law_made, defBody s__law_made, defScope s__law_made, [], []⟩
abbrev s__law_shown : Stmt := top 43
def d__law_shown : He.DefD := ⟨("_law_shown", none), "_law_shown", "_law_shown", defArgs s__law_shown, defBody s__law_shown, defScope s__law_shown, [], []⟩
abbrev s_law : Stmt := top 44
def d_law : He.DefD := ⟨("law", none), "law", "law", defArgs s_law, defBody s_law, defScope s_law, [], []⟩
def fn : List He.DefD := d_is_amount :: d_is_yard :: d_is_place :: d_are_places :: d_is_ask :: d_is_day :: d_need_yard :: d_are_amounts :: d_joined :: d_show_yard :: d_show_standing :: d_show_day :: d_need_text :: d_parts_of :: d_number_in :: d_numbers_in :: d_two_in :: d_read_yard :: d_read_standing :: d_ask_in :: d_read_day :: d__law_cart :: d__law_pull :: d__law_rooms :: d__law_things :: d__law_some :: d__law_asks :: d__law_put_by :: d__law_texts :: d__law_made :: d__law_shown :: d_law :: []
def fa : List He.Fa := .glo "is_amount" :: .glo "is_yard" :: .glo "is_place" :: .glo "are_places" :: .glo "is_ask" :: .glo "is_day" :: .glo "need_yard" :: .glo "are_amounts" :: .glo "joined" :: .glo "show_yard" :: .glo "show_standing" :: .glo "show_day" :: .glo "need_text" :: .glo "parts_of" :: .glo "number_in" :: .glo "numbers_in" :: .glo "two_in" :: .glo "read_yard" :: .glo "read_standing" :: .glo "ask_in" :: .glo "read_day" :: .glo "_law_cart" :: .glo "_law_pull" :: .glo "_law_rooms" :: .glo "_law_things" :: .glo "_law_some" :: .glo "_law_asks" :: .glo "_law_put_by" :: .glo "_law_texts" :: .glo "_law_made" :: .glo "_law_shown" :: .glo "law" :: .free "ValueError" :: .free "abs" :: .free "all" :: .free "bool" :: .free "int" :: .free "isinstance" :: .free "len" :: .free "list" :: .free "max" :: .free "min" :: .free "range" :: .free "repr" :: .free "set" :: .free "str" :: .free "tuple" :: .int "MOST_PLACES" (9) :: .str "FIGURES" "0123456789" :: .glo "WIDEST" :: .str "NOTHING" "." :: []
def ex (K : PySem.W.Frag) : Bool := He.tupB K "WIDEST" [.non, .non, .non, .non, .non, .non, .non, .non, .non]
abbrev hk : PySem.W.Hook := hookM 4 fa fn ex
def ob (s : PySem.W.SharedT) : AlM := obsM 4 fa fn ex (HandSHeadRun.getT s)
theorem ob_eq (s : PySem.W.SharedT) : ob s = hk.obs s.abs := obsM_eq (HandSHeadRun.getT_eq s)
def loose : List Str := "YardError" :: "NoYard" :: "NoStanding" :: "NoDay" :: "NoText" :: "MOST_PLACES" :: "is_amount" :: "is_yard" :: "is_place" :: "are_places" :: "is_ask" :: "is_day" :: "need_yard" :: "FIGURES" :: "WIDEST" :: "NOTHING" :: "are_amounts" :: "joined" :: "show_yard" :: "show_standing" :: "show_day" :: "need_text" :: "parts_of" :: "number_in" :: "numbers_in" :: "two_in" :: "read_yard" :: "read_standing" :: "ask_in" :: "read_day" :: "_law_cart" :: "_law_pull" :: "_law_rooms" :: "_law_things" :: "_law_some" :: "_law_asks" :: "_law_put_by" :: "_law_texts" :: "_law_made" :: "_law_shown" :: []
theorem run (w : World) : HandSHeadRun.RunEq R (PySem.W.view R.prog [44]) hk ob 4000 loose w := by
  intro os
  kernel_rfl
end K45
end
section
namespace K45
open PySem PySem.Spec PyProof.Rows L2 Md
abbrev FX (K : PySem.W.Frag) (mg : Str → Option Value) : Prop := Fx fa fn ex K mg
theorem gt_WIDEST {X : Cx} {Wx : WX} {pos : Pos} (Y : FX X.K X.mg) (hg : Gl X "WIDEST") : ME X Wx (.Name "WIDEST" pos) (er (.v (.tup [.non, .non, .non, .non, .non, .non, .non, .non, .non]))) :=
  me_gtupB (x := "WIDEST") (vs := [.non, .non, .non, .non, .non, .non, .non, .non, .non]) hg (Y.glo 49) Y.x rfl
def st0_is_amount : Sm := (sRet (eAnd (eIsi .int (eName 0)) (eAnd (eNot (eIsi .bool (eName 0))) (eOp2 (onD geD) (eName 0) (er (.v (.int 0)))))))
def sm_is_amount : Sm := st0_is_amount
def m_is_amount : Mf := Md.run 0 1 1 (xtF 0) sm_is_amount
theorem sc_is_amount : FnScope ["thing"] ["thing"] d_is_amount.scope := ⟨rfl, rfl, rfl, by decide +kernel, rfl, by decide +kernel, by decide +kernel⟩
theorem n_is_amount : (["thing"] : List Str).Nodup := by decide +kernel
theorem b_is_amount {P : Program} {w : World} {K : PySem.W.Frag} {mg : Str → Option Value} {base : Heap} (Y : FX K mg) (f : Addr) (cdv : Value) (A : Around) (outer : List Env) (s : Shared) (H : Hp) (E : XK) (hr : RoomG 0 (A.deeper (envOfC d_is_amount.qual d_is_amount.scope s.heap.objs.size f cdv))) :
    MSs (cxOf (L2.CX P w) P w K mg base ["thing"] d_is_amount.qual d_is_amount.scope f cdv A outer s H E) (fun cls d _ H => E cls d H) 0 d_is_amount.body sm_is_amount :=
  have hN := n_is_amount
  (mss_one (ms_ret (me_and (me_isi .int rfl (Y.free 37) rfl (Y.free 36) rfl (me_name 0)) (me_and (me_not (me_isi .bool rfl (Y.free 37) rfl (Y.free 35) rfl (me_name 0))) (me_one (me_cmp op_geD (me_name 0) me_int (nomark _)))))))
theorem f_is_amount {P : Program} {w : World} {K : PySem.W.Frag} {mg : Str → Option Value} {base : Heap} (Y : FX K mg) : FnM P w K mg base 1 "is_amount" m_is_amount :=
  fnM_of Y 0 0 (d := d_is_amount) (Sc := sc_is_amount) (hx := (xtF_ok 0)) (hb := fun _ _ _ _ _ _ us hl => match us, hl with | [_], _ => rfl) (h := b_is_amount Y)
def st0_is_yard : Sm := (sRet (er (.v (.bl false))))
def st1_is_yard : Sm := (sIf (eOrT (eNotT (eTest (eIsi .tuple (eName 0)))) (eNotT (eTest (eChain (onD leD) (onD leD) (er (.v (.int 1))) (eCall (lenS) (eCons (eName 0) eNil)) (er (.v (.int 9))))))) st0_is_yard sNx)
def lc0_is_yard : Em (List D) := eLc (eIt (eName 0)) [1] (gN 1) eYes (eOr (eOp2 isN (eName 1) (er (.v .non))) (eCall (gP m_is_amount) (eCons (eName 1) eNil)))
def st2_is_yard : Sm := (sRet (eCall (oneL allD) (eCons (eFz lc0_is_yard) eNil)))
def sm_is_yard : Sm := (sSeq st1_is_yard st2_is_yard)
def m_is_yard : Mf := Md.run 0 1 2 (xtF 0) sm_is_yard
theorem sc_is_yard : FnScope ["thing", "room"] ["thing"] d_is_yard.scope := ⟨rfl, rfl, rfl, by decide +kernel, rfl, by decide +kernel, by decide +kernel⟩
theorem n_is_yard : (["thing", "room"] : List Str).Nodup := by decide +kernel
theorem b_is_yard {P : Program} {w : World} {K : PySem.W.Frag} {mg : Str → Option Value} {base : Heap} (Y : FX K mg) (f : Addr) (cdv : Value) (A : Around) (outer : List Env) (s : Shared) (H : Hp) (E : XK) (hr : RoomG 1 (A.deeper (envOfC d_is_yard.qual d_is_yard.scope s.heap.objs.size f cdv))) :
    MSs (cxOf (L2.CX P w) P w K mg base ["thing", "room"] d_is_yard.qual d_is_yard.scope f cdv A outer s H E) (fun cls d _ H => E cls d H) 0 d_is_yard.body sm_is_yard :=
  have hN := n_is_yard
  (mss_cons (ms_if (mw_pt (mw_or (mt_not (mt_val (me_isi .tuple rfl (Y.free 37) rfl (Y.free 46) rfl (me_name 0)))) (mw_or1 (mt_not (mt_chain op_leD op_leD me_int (me_callB cm_len rfl (Y.free 38) rfl (ma_cons (me_name 0) ma_nil)) (me_gint rfl (Y.int 47))))))) (mss_one (ms_ret me_bl)) mss_nil) (mss_one (ms_ret (me_callB cm_all rfl (Y.free 34) rfl (ma_cons (me_frz (mf_lc (own := [("room", 1)]) rfl hN (mi_seq (me_name 0)) (blkOk_by rfl) (by decide) (fun _ _ _ _ _ => (mg_name 1 hN)) (fun _ _ _ _ _ => mts_nil) (fun _ _ _ _ _ => (me_or (me_isN (me_name 1)) (me_one (me_call ((f_is_amount Y).mono (lv' := 1) (by decide)) call_p hr rfl tk0 (ma_cons (me_name 1) ma_nil))))))) ma_nil)))))
theorem f_is_yard {P : Program} {w : World} {K : PySem.W.Frag} {mg : Str → Option Value} {base : Heap} (Y : FX K mg) : FnM P w K mg base 2 "is_yard" m_is_yard :=
  fnM_of Y 1 1 (d := d_is_yard) (Sc := sc_is_yard) (hx := (xtF_ok 0)) (hb := fun _ _ _ _ _ _ us hl => match us, hl with | [_], _ => rfl) (h := b_is_yard Y)
def st0_is_place : Sm := (sRet (eAnd (eCall (gP m_is_amount) (eCons (eName 1) eNil)) (eOp2 (onD ltD) (eName 1) (eCall (lenS) (eCons (eName 0) eNil)))))
def sm_is_place : Sm := st0_is_place
def m_is_place : Mf := Md.run 0 2 2 (xtF 0) sm_is_place
theorem sc_is_place : FnScope ["yard", "thing"] ["yard", "thing"] d_is_place.scope := ⟨rfl, rfl, rfl, by decide +kernel, rfl, by decide +kernel, by decide +kernel⟩
theorem n_is_place : (["yard", "thing"] : List Str).Nodup := by decide +kernel
theorem b_is_place {P : Program} {w : World} {K : PySem.W.Frag} {mg : Str → Option Value} {base : Heap} (Y : FX K mg) (f : Addr) (cdv : Value) (A : Around) (outer : List Env) (s : Shared) (H : Hp) (E : XK) (hr : RoomG 1 (A.deeper (envOfC d_is_place.qual d_is_place.scope s.heap.objs.size f cdv))) :
    MSs (cxOf (L2.CX P w) P w K mg base ["yard", "thing"] d_is_place.qual d_is_place.scope f cdv A outer s H E) (fun cls d _ H => E cls d H) 0 d_is_place.body sm_is_place :=
  have hN := n_is_place
  (mss_one (ms_ret (me_and (me_call ((f_is_amount Y).mono (lv' := 1) (by decide)) call_p hr rfl tkF (ma_cons (me_name 1) ma_nil)) (me_one (me_cmp op_ltD (me_name 1) (me_callB cm_len rfl (Y.free 38) rfl (ma_cons (me_name 0) ma_nil)) (nomark _))))))
theorem f_is_place {P : Program} {w : World} {K : PySem.W.Frag} {mg : Str → Option Value} {base : Heap} (Y : FX K mg) : FnM P w K mg base 2 "is_place" m_is_place :=
  fnM_of Y 2 2 (d := d_is_place) (Sc := sc_is_place) (hx := (xtF_ok 0)) (hb := fun _ _ _ _ _ _ us hl => match us, hl with | [_, _], _ => rfl) (h := b_is_place Y)
def lc0_are_places : Em (List D) := eLc (eIt (eName 1)) [2] (gN 2) eYes (eCall (gP m_is_place) (eCons (eName 0) (eCons (eName 2) eNil)))
def st0_are_places : Sm := (sRet (er (.v (.bl false))))
def st1_are_places : Sm := (sIf (eOrT (eNotT (eTest (eIsi .tuple (eName 1)))) (eNotT (eTest (eCall (oneL allD) (eCons (eFz lc0_are_places) eNil))))) st0_are_places sNx)
def st2_are_places : Sm := (sRet (eOp2 (onR eqR) (eLens (eName 1)) (eCall (lenS) (eCons (eName 1) eNil))))
def sm_are_places : Sm := (sSeq st1_are_places st2_are_places)
def m_are_places : Mf := Md.run 0 2 3 (xtF 0) sm_are_places
theorem sc_are_places : FnScope ["yard", "thing", "one"] ["yard", "thing"] d_are_places.scope := ⟨rfl, rfl, rfl, by decide +kernel, rfl, by decide +kernel, by decide +kernel⟩
theorem n_are_places : (["yard", "thing", "one"] : List Str).Nodup := by decide +kernel
theorem b_are_places {P : Program} {w : World} {K : PySem.W.Frag} {mg : Str → Option Value} {base : Heap} (Y : FX K mg) (f : Addr) (cdv : Value) (A : Around) (outer : List Env) (s : Shared) (H : Hp) (E : XK) (hr : RoomG 2 (A.deeper (envOfC d_are_places.qual d_are_places.scope s.heap.objs.size f cdv))) :
    MSs (cxOf (L2.CX P w) P w K mg base ["yard", "thing", "one"] d_are_places.qual d_are_places.scope f cdv A outer s H E) (fun cls d _ H => E cls d H) 0 d_are_places.body sm_are_places :=
  have hN := n_are_places
  (mss_cons (ms_if (mw_pt (mw_or (mt_not (mt_val (me_isi .tuple rfl (Y.free 37) rfl (Y.free 46) rfl (me_name 1)))) (mw_or1 (mt_not (mt_val (me_callB cm_all rfl (Y.free 34) rfl (ma_cons (me_frz (mf_lc (own := [("one", 2)]) rfl hN (mi_seq (me_name 1)) (blkOk_by rfl) (by decide) (fun _ _ _ _ _ => (mg_name 2 hN)) (fun _ _ _ _ _ => mts_nil) (fun _ _ _ _ _ => (me_call ((f_is_place Y).mono (lv' := 2) (by decide)) call_p hr rfl tk0 (ma_cons (me_name 0) (ma_cons (me_name 2) ma_nil)))))) ma_nil))))))) (mss_one (ms_ret me_bl)) mss_nil) (mss_one (ms_ret (me_cmp (op_eqR hr.u64) (me_lens rfl (Y.free 38) rfl (Y.free 44) (me_name 1)) (me_callB cm_len rfl (Y.free 38) rfl (ma_cons (me_name 1) ma_nil)) (nomark _)))))
theorem f_are_places {P : Program} {w : World} {K : PySem.W.Frag} {mg : Str → Option Value} {base : Heap} (Y : FX K mg) : FnM P w K mg base 3 "are_places" m_are_places :=
  fnM_of Y 3 3 (d := d_are_places) (Sc := sc_are_places) (hx := (xtF_ok 0)) (hb := fun _ _ _ _ _ _ us hl => match us, hl with | [_, _], _ => rfl) (h := b_are_places Y)
def lc0_is_ask : Em (List D) := eLc (eIt (eName 1)) [2] (gN 2) eYes (eCall (gP m_are_places) (eCons (eName 0) (eCons (eName 2) eNil)))
def st0_is_ask : Sm := (sRet (eAnd (eIsi .tuple (eName 1)) (eAnd (eOp2 (onR eqR) (eCall (lenS) (eCons (eName 1) eNil)) (er (.v (.int 2)))) (eCall (oneL allD) (eCons (eFz lc0_is_ask) eNil)))))
def sm_is_ask : Sm := st0_is_ask
def m_is_ask : Mf := Md.run 0 2 3 (xtF 0) sm_is_ask
theorem sc_is_ask : FnScope ["yard", "thing", "some"] ["yard", "thing"] d_is_ask.scope := ⟨rfl, rfl, rfl, by decide +kernel, rfl, by decide +kernel, by decide +kernel⟩
theorem n_is_ask : (["yard", "thing", "some"] : List Str).Nodup := by decide +kernel
theorem b_is_ask {P : Program} {w : World} {K : PySem.W.Frag} {mg : Str → Option Value} {base : Heap} (Y : FX K mg) (f : Addr) (cdv : Value) (A : Around) (outer : List Env) (s : Shared) (H : Hp) (E : XK) (hr : RoomG 3 (A.deeper (envOfC d_is_ask.qual d_is_ask.scope s.heap.objs.size f cdv))) :
    MSs (cxOf (L2.CX P w) P w K mg base ["yard", "thing", "some"] d_is_ask.qual d_is_ask.scope f cdv A outer s H E) (fun cls d _ H => E cls d H) 0 d_is_ask.body sm_is_ask :=
  have hN := n_is_ask
  (mss_one (ms_ret (me_and (me_isi .tuple rfl (Y.free 37) rfl (Y.free 46) rfl (me_name 1)) (me_and (me_cmp (op_eqR hr.u64) (me_callB cm_len rfl (Y.free 38) rfl (ma_cons (me_name 1) ma_nil)) me_int (nomark _)) (me_one (me_callB cm_all rfl (Y.free 34) rfl (ma_cons (me_frz (mf_lc (own := [("some", 2)]) rfl hN (mi_seq (me_name 1)) (blkOk_by rfl) (by decide) (fun _ _ _ _ _ => (mg_name 2 hN)) (fun _ _ _ _ _ => mts_nil) (fun _ _ _ _ _ => (me_call ((f_are_places Y).mono (lv' := 3) (by decide)) call_p hr rfl tk0 (ma_cons (me_name 0) (ma_cons (me_name 2) ma_nil)))))) ma_nil)))))))
theorem f_is_ask {P : Program} {w : World} {K : PySem.W.Frag} {mg : Str → Option Value} {base : Heap} (Y : FX K mg) : FnM P w K mg base 4 "is_ask" m_is_ask :=
  fnM_of Y 4 4 (d := d_is_ask) (Sc := sc_is_ask) (hx := (xtF_ok 0)) (hb := fun _ _ _ _ _ _ us hl => match us, hl with | [_, _], _ => rfl) (h := b_is_ask Y)
def st0_need_yard : Sm := (sIf (eNotT (eTest (eCall (gP m_is_yard) (eCons (eName 0) eNil)))) (fun _ _ => .bad) sNx)
def sm_need_yard : Sm := st0_need_yard
def m_need_yard : Mf := Md.run 0 1 1 (xtF 0) sm_need_yard
theorem sc_need_yard : FnScope ["yard"] ["yard"] d_need_yard.scope := ⟨rfl, rfl, rfl, by decide +kernel, rfl, by decide +kernel, by decide +kernel⟩
theorem n_need_yard : (["yard"] : List Str).Nodup := by decide +kernel
theorem b_need_yard {P : Program} {w : World} {K : PySem.W.Frag} {mg : Str → Option Value} {base : Heap} (Y : FX K mg) (f : Addr) (cdv : Value) (A : Around) (outer : List Env) (s : Shared) (H : Hp) (E : XK) (hr : RoomG 2 (A.deeper (envOfC d_need_yard.qual d_need_yard.scope s.heap.objs.size f cdv))) :
    MSs (cxOf (L2.CX P w) P w K mg base ["yard"] d_need_yard.qual d_need_yard.scope f cdv A outer s H E) (fun cls d _ H => E cls d H) 0 d_need_yard.body sm_need_yard :=
  have hN := n_need_yard
  (mss_one (ms_if (mt_not (mt_val (me_call ((f_is_yard Y).mono (lv' := 2) (by decide)) call_p hr rfl tkF (ma_cons (me_name 0) ma_nil)))) (mss_one ms_bad) mss_nil))
theorem f_need_yard {P : Program} {w : World} {K : PySem.W.Frag} {mg : Str → Option Value} {base : Heap} (Y : FX K mg) : FnM P w K mg base 3 "need_yard" m_need_yard :=
  fnM_of Y 6 6 (d := d_need_yard) (Sc := sc_need_yard) (hx := (xtF_ok 0)) (hb := fun _ _ _ _ _ _ us hl => match us, hl with | [_], _ => rfl) (h := b_need_yard Y)
def st0_is_day : Sm := (sEx (eCall (gP m_need_yard) (eCons (eName 0) eNil)))
def lc0_is_day : Em (List D) := eLc (eIt (eName 1)) [2] (gN 2) eYes (eCall (gP m_is_ask) (eCons (eName 0) (eCons (eName 2) eNil)))
def st1_is_day : Sm := (sRet (eAnd (eIsi .list (eName 1)) (eCall (oneL allD) (eCons (eFz lc0_is_day) eNil))))
def sm_is_day : Sm := (sSeq st0_is_day st1_is_day)
def m_is_day : Mf := Md.run 0 2 3 (xtF 0) sm_is_day
theorem sc_is_day : FnScope ["yard", "thing", "one"] ["yard", "thing"] d_is_day.scope := ⟨rfl, rfl, rfl, by decide +kernel, rfl, by decide +kernel, by decide +kernel⟩
theorem n_is_day : (["yard", "thing", "one"] : List Str).Nodup := by decide +kernel
theorem b_is_day {P : Program} {w : World} {K : PySem.W.Frag} {mg : Str → Option Value} {base : Heap} (Y : FX K mg) (f : Addr) (cdv : Value) (A : Around) (outer : List Env) (s : Shared) (H : Hp) (E : XK) (hr : RoomG 4 (A.deeper (envOfC d_is_day.qual d_is_day.scope s.heap.objs.size f cdv))) :
    MSs (cxOf (L2.CX P w) P w K mg base ["yard", "thing", "one"] d_is_day.qual d_is_day.scope f cdv A outer s H E) (fun cls d _ H => E cls d H) 0 d_is_day.body sm_is_day :=
  have hN := n_is_day
  (mss_cons (ms_ex (me_call ((f_need_yard Y).mono (lv' := 4) (by decide)) call_p hr rfl tkF (ma_cons (me_name 0) ma_nil))) (mss_one (ms_ret (me_and (me_isi .list rfl (Y.free 37) rfl (Y.free 39) rfl (me_name 1)) (me_one (me_callB cm_all rfl (Y.free 34) rfl (ma_cons (me_frz (mf_lc (own := [("one", 2)]) rfl hN (mi_seq (me_name 1)) (blkOk_by rfl) (by decide) (fun _ _ _ _ _ => (mg_name 2 hN)) (fun _ _ _ _ _ => mts_nil) (fun _ _ _ _ _ => (me_call ((f_is_ask Y).mono (lv' := 4) (by decide)) call_p hr rfl tk0 (ma_cons (me_name 0) (ma_cons (me_name 2) ma_nil)))))) ma_nil)))))))
theorem f_is_day {P : Program} {w : World} {K : PySem.W.Frag} {mg : Str → Option Value} {base : Heap} (Y : FX K mg) : FnM P w K mg base 5 "is_day" m_is_day :=
  fnM_of Y 5 5 (d := d_is_day) (Sc := sc_is_day) (hx := (xtF_ok 0)) (hb := fun _ _ _ _ _ _ us hl => match us, hl with | [_, _], _ => rfl) (h := b_is_day Y)
def lc0_are_amounts : Em (List D) := eLc (eIt (eName 0)) [1] (gN 1) eYes (eCall (gP m_is_amount) (eCons (eName 1) eNil))
def st0_are_amounts : Sm := (sRet (eAnd (eIsi .tuple (eName 0)) (eAnd (eChain (onD leD) (onD leD) (er (.v (.int 1))) (eCall (lenS) (eCons (eName 0) eNil)) (er (.v (.int 9)))) (eCall (oneL allD) (eCons (eFz lc0_are_amounts) eNil)))))
def sm_are_amounts : Sm := st0_are_amounts
def m_are_amounts : Mf := Md.run 0 1 2 (xtF 0) sm_are_amounts
theorem sc_are_amounts : FnScope ["thing", "one"] ["thing"] d_are_amounts.scope := ⟨rfl, rfl, rfl, by decide +kernel, rfl, by decide +kernel, by decide +kernel⟩
theorem n_are_amounts : (["thing", "one"] : List Str).Nodup := by decide +kernel
theorem b_are_amounts {P : Program} {w : World} {K : PySem.W.Frag} {mg : Str → Option Value} {base : Heap} (Y : FX K mg) (f : Addr) (cdv : Value) (A : Around) (outer : List Env) (s : Shared) (H : Hp) (E : XK) (hr : RoomG 1 (A.deeper (envOfC d_are_amounts.qual d_are_amounts.scope s.heap.objs.size f cdv))) :
    MSs (cxOf (L2.CX P w) P w K mg base ["thing", "one"] d_are_amounts.qual d_are_amounts.scope f cdv A outer s H E) (fun cls d _ H => E cls d H) 0 d_are_amounts.body sm_are_amounts :=
  have hN := n_are_amounts
  (mss_one (ms_ret (me_and (me_isi .tuple rfl (Y.free 37) rfl (Y.free 46) rfl (me_name 0)) (me_and (me_chain op_leD op_leD me_int (me_callB cm_len rfl (Y.free 38) rfl (ma_cons (me_name 0) ma_nil)) (me_gint rfl (Y.int 47))) (me_one (me_callB cm_all rfl (Y.free 34) rfl (ma_cons (me_frz (mf_lc (own := [("one", 1)]) rfl hN (mi_seq (me_name 0)) (blkOk_by rfl) (by decide) (fun _ _ _ _ _ => (mg_name 1 hN)) (fun _ _ _ _ _ => mts_nil) (fun _ _ _ _ _ => (me_call ((f_is_amount Y).mono (lv' := 1) (by decide)) call_p hr rfl tk0 (ma_cons (me_name 1) ma_nil))))) ma_nil)))))))
theorem f_are_amounts {P : Program} {w : World} {K : PySem.W.Frag} {mg : Str → Option Value} {base : Heap} (Y : FX K mg) : FnM P w K mg base 2 "are_amounts" m_are_amounts :=
  fnM_of Y 7 7 (d := d_are_amounts) (Sc := sc_are_amounts) (hx := (xtF_ok 0)) (hb := fun _ _ _ _ _ _ us hl => match us, hl with | [_], _ => rfl) (h := b_are_amounts Y)
def lc0_joined : Em (List D) := eLc (eIt (eName 0)) [1] (gN 1) eYes (eCall (onL strL2) (eCons (eName 1) eNil))
def st0_joined : Sm := (sRet (eM1 joinG (er (.v (.str " "))) (eFz lc0_joined)))
def sm_joined : Sm := st0_joined
def m_joined : Mf := Md.run 0 1 2 (xtF 0) sm_joined
theorem sc_joined : FnScope ["numbers", "number"] ["numbers"] d_joined.scope := ⟨rfl, rfl, rfl, by decide +kernel, rfl, by decide +kernel, by decide +kernel⟩
theorem n_joined : (["numbers", "number"] : List Str).Nodup := by decide +kernel
theorem b_joined {P : Program} {w : World} {K : PySem.W.Frag} {mg : Str → Option Value} {base : Heap} (Y : FX K mg) (f : Addr) (cdv : Value) (A : Around) (outer : List Env) (s : Shared) (H : Hp) (E : XK) (hr : RoomG 0 (A.deeper (envOfC d_joined.qual d_joined.scope s.heap.objs.size f cdv))) :
    MSs (cxOf (L2.CX P w) P w K mg base ["numbers", "number"] d_joined.qual d_joined.scope f cdv A outer s H E) (fun cls d _ H => E cls d H) 0 d_joined.body sm_joined :=
  have hN := n_joined
  (mss_one (ms_ret (me_join me_str (me_frz (mf_lc (own := [("number", 1)]) rfl hN (mi_seq (me_name 0)) (blkOk_by rfl) (by decide) (fun _ _ _ _ _ => (mg_name 1 hN)) (fun _ _ _ _ _ => mts_nil) (fun _ _ _ _ _ => (me_callT cm_str2 rfl (Y.free 45) rfl (ma_cons (me_name 1) ma_nil))))))))
theorem f_joined {P : Program} {w : World} {K : PySem.W.Frag} {mg : Str → Option Value} {base : Heap} (Y : FX K mg) : FnM P w K mg base 1 "joined" m_joined :=
  fnM_of Y 8 8 (d := d_joined) (Sc := sc_joined) (hx := (xtF_ok 0)) (hb := fun _ _ _ _ _ _ us hl => match us, hl with | [_], _ => rfl) (h := b_joined Y)
def st0_show_yard : Sm := (sEx (eCall (gP m_need_yard) (eCons (eName 0) eNil)))
def lc0_show_yard : Em (List D) := eLc (eIt (eName 0)) [1] (gN 1) eYes (eIf (eTest (eOp2 isN (eName 1) (er (.v .non)))) (er (.v (.str "-"))) (eCall (onL strL2) (eCons (eName 1) eNil)))
def st1_show_yard : Sm := (sRet (eM1 joinG (er (.v (.str " "))) (eFz lc0_show_yard)))
def sm_show_yard : Sm := (sSeq st0_show_yard st1_show_yard)
def m_show_yard : Mf := Md.run 0 1 2 (xtF 0) sm_show_yard
theorem sc_show_yard : FnScope ["yard", "room"] ["yard"] d_show_yard.scope := ⟨rfl, rfl, rfl, by decide +kernel, rfl, by decide +kernel, by decide +kernel⟩
theorem n_show_yard : (["yard", "room"] : List Str).Nodup := by decide +kernel
theorem b_show_yard {P : Program} {w : World} {K : PySem.W.Frag} {mg : Str → Option Value} {base : Heap} (Y : FX K mg) (f : Addr) (cdv : Value) (A : Around) (outer : List Env) (s : Shared) (H : Hp) (E : XK) (hr : RoomG 3 (A.deeper (envOfC d_show_yard.qual d_show_yard.scope s.heap.objs.size f cdv))) :
    MSs (cxOf (L2.CX P w) P w K mg base ["yard", "room"] d_show_yard.qual d_show_yard.scope f cdv A outer s H E) (fun cls d _ H => E cls d H) 0 d_show_yard.body sm_show_yard :=
  have hN := n_show_yard
  (mss_cons (ms_ex (me_call ((f_need_yard Y).mono (lv' := 3) (by decide)) call_p hr rfl tkF (ma_cons (me_name 0) ma_nil))) (mss_one (ms_ret (me_join me_str (me_frz (mf_lc (own := [("room", 1)]) rfl hN (mi_seq (me_name 0)) (blkOk_by rfl) (by decide) (fun _ _ _ _ _ => (mg_name 1 hN)) (fun _ _ _ _ _ => mts_nil) (fun _ _ _ _ _ => (me_if (mt_isN (me_name 1)) me_str (me_callT cm_str2 rfl (Y.free 45) rfl (ma_cons (me_name 1) ma_nil))))))))))
theorem f_show_yard {P : Program} {w : World} {K : PySem.W.Frag} {mg : Str → Option Value} {base : Heap} (Y : FX K mg) : FnM P w K mg base 4 "show_yard" m_show_yard :=
  fnM_of Y 9 9 (d := d_show_yard) (Sc := sc_show_yard) (hx := (xtF_ok 0)) (hb := fun _ _ _ _ _ _ us hl => match us, hl with | [_], _ => rfl) (h := b_show_yard Y)
theorem fk3_show_yard {P : Program} {w : World} {K : PySem.W.Frag} {mg : Str → Option Value} {base : Heap} (Y : FX K mg) : FnK P w K mg base 4 "show_yard" 0 ["yard"] [0] m_show_yard :=
  fnK_of Y 9 9 (d := d_show_yard) (Sc := sc_show_yard) (hx := (xtF_ok 0)) (hb := fun _ _ _ _ _ _ us ws h1 h2 => match us, ws, h1, h2 with | [], [_], _, _ => rfl) (h := b_show_yard Y)
def st0_show_standing : Sm := (sIf (eNotT (eTest (eCall (gP m_are_amounts) (eCons (eName 0) eNil)))) (fun _ _ => .bad) sNx)
def st1_show_standing : Sm := (sRet (eCall (gP m_joined) (eCons (eName 0) eNil)))
def sm_show_standing : Sm := (sSeq st0_show_standing st1_show_standing)
def m_show_standing : Mf := Md.run 0 1 1 (xtF 0) sm_show_standing
theorem sc_show_standing : FnScope ["standing"] ["standing"] d_show_standing.scope := ⟨rfl, rfl, rfl, by decide +kernel, rfl, by decide +kernel, by decide +kernel⟩
theorem n_show_standing : (["standing"] : List Str).Nodup := by decide +kernel
theorem b_show_standing {P : Program} {w : World} {K : PySem.W.Frag} {mg : Str → Option Value} {base : Heap} (Y : FX K mg) (f : Addr) (cdv : Value) (A : Around) (outer : List Env) (s : Shared) (H : Hp) (E : XK) (hr : RoomG 2 (A.deeper (envOfC d_show_standing.qual d_show_standing.scope s.heap.objs.size f cdv))) :
    MSs (cxOf (L2.CX P w) P w K mg base ["standing"] d_show_standing.qual d_show_standing.scope f cdv A outer s H E) (fun cls d _ H => E cls d H) 0 d_show_standing.body sm_show_standing :=
  have hN := n_show_standing
  (mss_cons (ms_if (mt_not (mt_val (me_call ((f_are_amounts Y).mono (lv' := 2) (by decide)) call_p hr rfl tkF (ma_cons (me_name 0) ma_nil)))) (mss_one ms_bad) mss_nil) (mss_one (ms_ret (me_call ((f_joined Y).mono (lv' := 2) (by decide)) call_p hr rfl tkF (ma_cons (me_name 0) ma_nil)))))
theorem f_show_standing {P : Program} {w : World} {K : PySem.W.Frag} {mg : Str → Option Value} {base : Heap} (Y : FX K mg) : FnM P w K mg base 3 "show_standing" m_show_standing :=
  fnM_of Y 10 10 (d := d_show_standing) (Sc := sc_show_standing) (hx := (xtF_ok 0)) (hb := fun _ _ _ _ _ _ us hl => match us, hl with | [_], _ => rfl) (h := b_show_standing Y)
theorem fk2_show_standing {P : Program} {w : World} {K : PySem.W.Frag} {mg : Str → Option Value} {base : Heap} (Y : FX K mg) : FnK P w K mg base 3 "show_standing" 0 ["standing"] [0] m_show_standing :=
  fnK_of Y 10 10 (d := d_show_standing) (Sc := sc_show_standing) (hx := (xtF_ok 0)) (hb := fun _ _ _ _ _ _ us ws h1 h2 => match us, ws, h1, h2 with | [], [_], _, _ => rfl) (h := b_show_standing Y)
def st0_show_day : Sm := (sIf (eNotT (eTest (eCall (gP m_is_day) (eCons (er (.v (.tup [.non, .non, .non, .non, .non, .non, .non, .non, .non]))) (eCons (eName 0) eNil))))) (fun _ _ => .bad) sNx)
def st1_show_day : Sm := (sRet (er (.v (.str "."))))
def st2_show_day : Sm := (sIf (eTest (eOp2 (onR eqR) (eName 0) (eFz (eLst eNil)))) st1_show_day sNx)
def lc0_show_day : Em (List D) := eLc (eIt (eName 0)) [1, 2] (gT 2 (gsC (gN 1) (gsC (gN 2) gsN))) eYes (eOp2 (onD addD) (eOp2 (onD addD) (eCall (gP m_joined) (eCons (eName 1) eNil)) (er (.v (.str ">")))) (eCall (gP m_joined) (eCons (eName 2) eNil)))
def st3_show_day : Sm := (sRet (eM1 joinG (er (.v (.str ";"))) (eFz lc0_show_day)))
def sm_show_day : Sm := (sSeq st0_show_day (sSeq st2_show_day st3_show_day))
def m_show_day : Mf := Md.run 0 1 3 (xtF 0) sm_show_day
theorem sc_show_day : FnScope ["day", "wants", "leaves"] ["day"] d_show_day.scope := ⟨rfl, rfl, rfl, by decide +kernel, rfl, by decide +kernel, by decide +kernel⟩
theorem n_show_day : (["day", "wants", "leaves"] : List Str).Nodup := by decide +kernel
theorem b_show_day {P : Program} {w : World} {K : PySem.W.Frag} {mg : Str → Option Value} {base : Heap} (Y : FX K mg) (f : Addr) (cdv : Value) (A : Around) (outer : List Env) (s : Shared) (H : Hp) (E : XK) (hr : RoomG 5 (A.deeper (envOfC d_show_day.qual d_show_day.scope s.heap.objs.size f cdv))) :
    MSs (cxOf (L2.CX P w) P w K mg base ["day", "wants", "leaves"] d_show_day.qual d_show_day.scope f cdv A outer s H E) (fun cls d _ H => E cls d H) 0 d_show_day.body sm_show_day :=
  have hN := n_show_day
  (mss_cons (ms_if (mt_not (mt_val (me_call ((f_is_day Y).mono (lv' := 5) (by decide)) call_p hr rfl tkF (ma_cons (gt_WIDEST Y rfl) (ma_cons (me_name 0) ma_nil))))) (mss_one ms_bad) mss_nil) (mss_cons (ms_if (mt_cmp (op_eqR hr.u64) (me_name 0) (me_frz (mf_lst ma_nil)) (nomark _)) (mss_one (ms_ret (me_gstr rfl (Y.str 50)))) mss_nil) (mss_one (ms_ret (me_join me_str (me_frz (mf_lc (own := [("wants", 1), ("leaves", 2)]) rfl hN (mi_seq (me_name 0)) (blkOk_by rfl) (by decide) (fun _ _ _ _ _ => (mg_tup rfl (mgs_cons (mg_name 1 hN) (mgs_cons (mg_name 2 hN) mgs_nil)))) (fun _ _ _ _ _ => mts_nil) (fun _ _ _ _ _ => (me_bin op_addD (me_bin op_addD (me_call ((f_joined Y).mono (lv' := 5) (by decide)) call_p hr rfl tk0 (ma_cons (me_name 1) ma_nil)) me_str) (me_call ((f_joined Y).mono (lv' := 5) (by decide)) call_p hr rfl tk0 (ma_cons (me_name 2) ma_nil)))))))))))
theorem f_show_day {P : Program} {w : World} {K : PySem.W.Frag} {mg : Str → Option Value} {base : Heap} (Y : FX K mg) : FnM P w K mg base 6 "show_day" m_show_day :=
  fnM_of Y 11 11 (d := d_show_day) (Sc := sc_show_day) (hx := (xtF_ok 0)) (hb := fun _ _ _ _ _ _ us hl => match us, hl with | [_], _ => rfl) (h := b_show_day Y)
theorem fk1_show_day {P : Program} {w : World} {K : PySem.W.Frag} {mg : Str → Option Value} {base : Heap} (Y : FX K mg) : FnK P w K mg base 6 "show_day" 0 ["day"] [0] m_show_day :=
  fnK_of Y 11 11 (d := d_show_day) (Sc := sc_show_day) (hx := (xtF_ok 0)) (hb := fun _ _ _ _ _ _ us ws h1 h2 => match us, ws, h1, h2 with | [], [_], _, _ => rfl) (h := b_show_day Y)
def st0_need_text : Sm := (sIf (eNotT (eTruth (eName 0))) (fun _ _ => .bad) sNx)
def sm_need_text : Sm := st0_need_text
def m_need_text : Mf := Md.run 0 1 1 (xtF 0) sm_need_text
theorem sc_need_text : FnScope ["good"] ["good"] d_need_text.scope := ⟨rfl, rfl, rfl, by decide +kernel, rfl, by decide +kernel, by decide +kernel⟩
theorem n_need_text : (["good"] : List Str).Nodup := by decide +kernel
theorem b_need_text {P : Program} {w : World} {K : PySem.W.Frag} {mg : Str → Option Value} {base : Heap} (Y : FX K mg) (f : Addr) (cdv : Value) (A : Around) (outer : List Env) (s : Shared) (H : Hp) (E : XK) (hr : RoomG 0 (A.deeper (envOfC d_need_text.qual d_need_text.scope s.heap.objs.size f cdv))) :
    MSs (cxOf (L2.CX P w) P w K mg base ["good"] d_need_text.qual d_need_text.scope f cdv A outer s H E) (fun cls d _ H => E cls d H) 0 d_need_text.body sm_need_text :=
  have hN := n_need_text
  (mss_one (ms_if (mt_not (mt_truth (me_name 0))) (mss_one ms_bad) mss_nil))
theorem f_need_text {P : Program} {w : World} {K : PySem.W.Frag} {mg : Str → Option Value} {base : Heap} (Y : FX K mg) : FnM P w K mg base 1 "need_text" m_need_text :=
  fnM_of Y 12 12 (d := d_need_text) (Sc := sc_need_text) (hx := (xtF_ok 0)) (hb := fun _ _ _ _ _ _ us hl => match us, hl with | [_], _ => rfl) (h := b_need_text Y)
def st0_parts_of : Sm := (sEx (eCall (gP m_need_text) (eCons (eIsi .str (eName 0)) eNil)))
def st1_parts_of : Sm := (sRet (eIf (eTest (eOp2 (onR neR) (eName 0) (er (.v (.str ""))))) (eFz (eSplit (eName 0) (eName 1))) (eFz (eLst eNil))))
def sm_parts_of : Sm := (sSeq st0_parts_of st1_parts_of)
def m_parts_of : Mf := Md.run 0 2 2 (xtF 0) sm_parts_of
theorem sc_parts_of : FnScope ["text", "between"] ["text", "between"] d_parts_of.scope := ⟨rfl, rfl, rfl, by decide +kernel, rfl, by decide +kernel, by decide +kernel⟩
theorem n_parts_of : (["text", "between"] : List Str).Nodup := by decide +kernel
theorem b_parts_of {P : Program} {w : World} {K : PySem.W.Frag} {mg : Str → Option Value} {base : Heap} (Y : FX K mg) (f : Addr) (cdv : Value) (A : Around) (outer : List Env) (s : Shared) (H : Hp) (E : XK) (hr : RoomG 1 (A.deeper (envOfC d_parts_of.qual d_parts_of.scope s.heap.objs.size f cdv))) :
    MSs (cxOf (L2.CX P w) P w K mg base ["text", "between"] d_parts_of.qual d_parts_of.scope f cdv A outer s H E) (fun cls d _ H => E cls d H) 0 d_parts_of.body sm_parts_of :=
  have hN := n_parts_of
  (mss_cons (ms_ex (me_call ((f_need_text Y).mono (lv' := 1) (by decide)) call_p hr rfl tkF (ma_cons (me_isi .str rfl (Y.free 37) rfl (Y.free 45) rfl (me_name 0)) ma_nil))) (mss_one (ms_ret (me_if (mt_cmp (op_neR hr.u64) (me_name 0) me_str (nomark _)) (me_frz (mf_split (me_name 0) (me_name 1))) (me_frz (mf_lst ma_nil))))))
theorem f_parts_of {P : Program} {w : World} {K : PySem.W.Frag} {mg : Str → Option Value} {base : Heap} (Y : FX K mg) : FnM P w K mg base 2 "parts_of" m_parts_of :=
  fnM_of Y 13 13 (d := d_parts_of) (Sc := sc_parts_of) (hx := (xtF_ok 0)) (hb := fun _ _ _ _ _ _ us hl => match us, hl with | [_, _], _ => rfl) (h := b_parts_of Y)
def lc0_number_in : Em (List D) := eLc (eItS (eName 0)) [1] (gN 1) eYes (eOp2 (onD in2D) (eName 1) (er (.v (.str "0123456789"))))
def st0_number_in : Sm := (sEx (eCall (gP m_need_text) (eCons (eAnd (eOp2 (onR neR) (eName 0) (er (.v (.str "")))) (eAnd (eCall (oneL allD) (eCons (eFz lc0_number_in) eNil)) (eOr (eOp2 (onR eqR) (eName 0) (er (.v (.str "0")))) (eOp2 (onR neR) (eOp2 ixS (eName 0) (er (.v (.int 0)))) (er (.v (.str "0"))))))) eNil)))
def st1_number_in : Sm := (sRet (eCall (onL intL2) (eCons (eName 0) eNil)))
def sm_number_in : Sm := (sSeq st0_number_in st1_number_in)
def m_number_in : Mf := Md.run 0 1 2 (xtF 0) sm_number_in
theorem sc_number_in : FnScope ["word", "sign"] ["word"] d_number_in.scope := ⟨rfl, rfl, rfl, by decide +kernel, rfl, by decide +kernel, by decide +kernel⟩
theorem n_number_in : (["word", "sign"] : List Str).Nodup := by decide +kernel
theorem b_number_in {P : Program} {w : World} {K : PySem.W.Frag} {mg : Str → Option Value} {base : Heap} (Y : FX K mg) (f : Addr) (cdv : Value) (A : Around) (outer : List Env) (s : Shared) (H : Hp) (E : XK) (hr : RoomG 1 (A.deeper (envOfC d_number_in.qual d_number_in.scope s.heap.objs.size f cdv))) :
    MSs (cxOf (L2.CX P w) P w K mg base ["word", "sign"] d_number_in.qual d_number_in.scope f cdv A outer s H E) (fun cls d _ H => E cls d H) 0 d_number_in.body sm_number_in :=
  have hN := n_number_in
  (mss_cons (ms_ex (me_call ((f_need_text Y).mono (lv' := 1) (by decide)) call_p hr rfl tkF (ma_cons (me_and (me_cmp (op_neR hr.u64) (me_name 0) me_str (nomark _)) (me_and (me_callB cm_all rfl (Y.free 34) rfl (ma_cons (me_frz (mf_lc (own := [("sign", 1)]) rfl hN (mi_str (me_name 0)) (blkOk_by rfl) (by decide) (fun _ _ _ _ _ => (mg_name 1 hN)) (fun _ _ _ _ _ => mts_nil) (fun _ _ _ _ _ => (me_cmp (op_in2D hr.u65) (me_name 1) (me_gstr rfl (Y.str 48)) (by with_unfolding_all rfl))))) ma_nil)) (me_one (me_or (me_cmp (op_eqR hr.u64) (me_name 0) me_str (nomark _)) (me_one (me_cmp (op_neR hr.u64) (me_ix (me_name 0) me_int (fun _ _ => rfl)) me_str (nomark _))))))) ma_nil))) (mss_one (ms_ret (me_callT cm_int2 rfl (Y.free 36) rfl (ma_cons (me_name 0) ma_nil)))))
theorem f_number_in {P : Program} {w : World} {K : PySem.W.Frag} {mg : Str → Option Value} {base : Heap} (Y : FX K mg) : FnM P w K mg base 2 "number_in" m_number_in :=
  fnM_of Y 14 14 (d := d_number_in) (Sc := sc_number_in) (hx := (xtF_ok 0)) (hb := fun _ _ _ _ _ _ us hl => match us, hl with | [_], _ => rfl) (h := b_number_in Y)
def lc0_numbers_in : Em (List D) := eLc (eIt (eCall (gP m_parts_of) (eCons (eName 0) (eCons (er (.v (.str " "))) eNil)))) [1] (gN 1) eYes (eCall (gP m_number_in) (eCons (eName 1) eNil))
def st0_numbers_in : Sm := (sRet (eCall (tupS) (eCons (eFz lc0_numbers_in) eNil)))
def sm_numbers_in : Sm := st0_numbers_in
def m_numbers_in : Mf := Md.run 0 1 2 (xtF 0) sm_numbers_in
theorem sc_numbers_in : FnScope ["text", "word"] ["text"] d_numbers_in.scope := ⟨rfl, rfl, rfl, by decide +kernel, rfl, by decide +kernel, by decide +kernel⟩
theorem n_numbers_in : (["text", "word"] : List Str).Nodup := by decide +kernel
theorem b_numbers_in {P : Program} {w : World} {K : PySem.W.Frag} {mg : Str → Option Value} {base : Heap} (Y : FX K mg) (f : Addr) (cdv : Value) (A : Around) (outer : List Env) (s : Shared) (H : Hp) (E : XK) (hr : RoomG 2 (A.deeper (envOfC d_numbers_in.qual d_numbers_in.scope s.heap.objs.size f cdv))) :
    MSs (cxOf (L2.CX P w) P w K mg base ["text", "word"] d_numbers_in.qual d_numbers_in.scope f cdv A outer s H E) (fun cls d _ H => E cls d H) 0 d_numbers_in.body sm_numbers_in :=
  have hN := n_numbers_in
  (mss_one (ms_ret (me_callT cm_tuple rfl (Y.free 46) rfl (ma_cons (me_frz (mf_lc (own := [("word", 1)]) rfl hN (mi_seq (me_call ((f_parts_of Y).mono (lv' := 2) (by decide)) call_p hr rfl tkF (ma_cons (me_name 0) (ma_cons me_str ma_nil)))) (blkOk_by rfl) (by decide) (fun _ _ _ _ _ => (mg_name 1 hN)) (fun _ _ _ _ _ => mts_nil) (fun _ _ _ _ _ => (me_call ((f_number_in Y).mono (lv' := 2) (by decide)) call_p hr rfl tk0 (ma_cons (me_name 1) ma_nil))))) ma_nil))))
theorem f_numbers_in {P : Program} {w : World} {K : PySem.W.Frag} {mg : Str → Option Value} {base : Heap} (Y : FX K mg) : FnM P w K mg base 3 "numbers_in" m_numbers_in :=
  fnM_of Y 15 15 (d := d_numbers_in) (Sc := sc_numbers_in) (hx := (xtF_ok 0)) (hb := fun _ _ _ _ _ _ us hl => match us, hl with | [_], _ => rfl) (h := b_numbers_in Y)
def st0_two_in : Sm := (sAsg (gT 3 (gsC (gN 1) (gsC (gN 2) (gsC (gN 3) gsN)))) (eM1 partG (eName 0) (er (.v (.str ">")))))
def st1_two_in : Sm := (sEx (eCall (gP m_need_text) (eCons (eOp2 (onR eqR) (eName 2) (er (.v (.str ">")))) eNil)))
def st2_two_in : Sm := (sRet (eTup (eCons (eName 1) (eCons (eName 3) eNil))))
def sm_two_in : Sm := (sSeq st0_two_in (sSeq st1_two_in st2_two_in))
def m_two_in : Mf := Md.run 0 1 4 (xtF 0) sm_two_in
theorem sc_two_in : FnScope ["word", "one", "sign", "other"] ["word"] d_two_in.scope := ⟨rfl, rfl, rfl, by decide +kernel, rfl, by decide +kernel, by decide +kernel⟩
theorem n_two_in : (["word", "one", "sign", "other"] : List Str).Nodup := by decide +kernel
theorem b_two_in {P : Program} {w : World} {K : PySem.W.Frag} {mg : Str → Option Value} {base : Heap} (Y : FX K mg) (f : Addr) (cdv : Value) (A : Around) (outer : List Env) (s : Shared) (H : Hp) (E : XK) (hr : RoomG 1 (A.deeper (envOfC d_two_in.qual d_two_in.scope s.heap.objs.size f cdv))) :
    MSs (cxOf (L2.CX P w) P w K mg base ["word", "one", "sign", "other"] d_two_in.qual d_two_in.scope f cdv A outer s H E) (fun cls d _ H => E cls d H) 0 d_two_in.body sm_two_in :=
  have hN := n_two_in
  (mss_cons (ms_asg (me_part (me_name 0) me_str) (mg_tup rfl (mgs_cons (mg_name 1 hN) (mgs_cons (mg_name 2 hN) (mgs_cons (mg_name 3 hN) mgs_nil))))) (mss_cons (ms_ex (me_call ((f_need_text Y).mono (lv' := 1) (by decide)) call_p hr rfl tkF (ma_cons (me_cmp (op_eqR hr.u64) (me_name 2) me_str (nomark _)) ma_nil))) (mss_one (ms_ret (me_tup (ma_cons (me_name 1) (ma_cons (me_name 3) ma_nil)))))))
theorem f_two_in {P : Program} {w : World} {K : PySem.W.Frag} {mg : Str → Option Value} {base : Heap} (Y : FX K mg) : FnM P w K mg base 2 "two_in" m_two_in :=
  fnM_of Y 16 16 (d := d_two_in) (Sc := sc_two_in) (hx := (xtF_ok 0)) (hb := fun _ _ _ _ _ _ us hl => match us, hl with | [_], _ => rfl) (h := b_two_in Y)
def lc0_read_yard : Em (List D) := eLc (eIt (eCall (gP m_parts_of) (eCons (eName 0) (eCons (er (.v (.str " "))) eNil)))) [2] (gN 2) eYes (eIf (eTest (eOp2 (onR eqR) (eName 2) (er (.v (.str "-"))))) (er (.v .non)) (eCall (gP m_number_in) (eCons (eName 2) eNil)))
def st0_read_yard : Sm := (sSet 1 (eCall (tupS) (eCons (eFz lc0_read_yard) eNil)))
def st1_read_yard : Sm := (sEx (eCall (gP m_need_text) (eCons (eCall (gP m_is_yard) (eCons (eName 1) eNil)) eNil)))
def st2_read_yard : Sm := (sRet (eName 1))
def sm_read_yard : Sm := (sSeq st0_read_yard (sSeq st1_read_yard st2_read_yard))
def m_read_yard : Mf := Md.run 0 1 3 (xtF 0) sm_read_yard
theorem sc_read_yard : FnScope ["text", "yard", "word"] ["text"] d_read_yard.scope := ⟨rfl, rfl, rfl, by decide +kernel, rfl, by decide +kernel, by decide +kernel⟩
theorem n_read_yard : (["text", "yard", "word"] : List Str).Nodup := by decide +kernel
theorem b_read_yard {P : Program} {w : World} {K : PySem.W.Frag} {mg : Str → Option Value} {base : Heap} (Y : FX K mg) (f : Addr) (cdv : Value) (A : Around) (outer : List Env) (s : Shared) (H : Hp) (E : XK) (hr : RoomG 2 (A.deeper (envOfC d_read_yard.qual d_read_yard.scope s.heap.objs.size f cdv))) :
    MSs (cxOf (L2.CX P w) P w K mg base ["text", "yard", "word"] d_read_yard.qual d_read_yard.scope f cdv A outer s H E) (fun cls d _ H => E cls d H) 0 d_read_yard.body sm_read_yard :=
  have hN := n_read_yard
  (mss_cons (ms_set (i := 1) hN (me_callT cm_tuple rfl (Y.free 46) rfl (ma_cons (me_frz (mf_lc (own := [("word", 2)]) rfl hN (mi_seq (me_call ((f_parts_of Y).mono (lv' := 2) (by decide)) call_p hr rfl tkF (ma_cons (me_name 0) (ma_cons me_str ma_nil)))) (blkOk_by rfl) (by decide) (fun _ _ _ _ _ => (mg_name 2 hN)) (fun _ _ _ _ _ => mts_nil) (fun _ _ _ _ _ => (me_if (mt_cmp (op_eqR hr.u64) (me_name 2) me_str (nomark _)) me_non (me_call ((f_number_in Y).mono (lv' := 2) (by decide)) call_p hr rfl tk0 (ma_cons (me_name 2) ma_nil)))))) ma_nil))) (mss_cons (ms_ex (me_call ((f_need_text Y).mono (lv' := 2) (by decide)) call_p hr rfl tkF (ma_cons (me_call ((f_is_yard Y).mono (lv' := 2) (by decide)) call_p hr rfl tkF (ma_cons (me_name 1) ma_nil)) ma_nil))) (mss_one (ms_ret (me_name 1)))))
theorem f_read_yard {P : Program} {w : World} {K : PySem.W.Frag} {mg : Str → Option Value} {base : Heap} (Y : FX K mg) : FnM P w K mg base 3 "read_yard" m_read_yard :=
  fnM_of Y 17 17 (d := d_read_yard) (Sc := sc_read_yard) (hx := (xtF_ok 0)) (hb := fun _ _ _ _ _ _ us hl => match us, hl with | [_], _ => rfl) (h := b_read_yard Y)
theorem fk4_read_yard {P : Program} {w : World} {K : PySem.W.Frag} {mg : Str → Option Value} {base : Heap} (Y : FX K mg) : FnK P w K mg base 3 "read_yard" 0 ["text"] [0] m_read_yard :=
  fnK_of Y 17 17 (d := d_read_yard) (Sc := sc_read_yard) (hx := (xtF_ok 0)) (hb := fun _ _ _ _ _ _ us ws h1 h2 => match us, ws, h1, h2 with | [], [_], _, _ => rfl) (h := b_read_yard Y)
def st0_read_standing : Sm := (sSet 1 (eCall (gP m_numbers_in) (eCons (eName 0) eNil)))
def st1_read_standing : Sm := (sEx (eCall (gP m_need_text) (eCons (eCall (gP m_are_amounts) (eCons (eName 1) eNil)) eNil)))
def st2_read_standing : Sm := (sRet (eName 1))
def sm_read_standing : Sm := (sSeq st0_read_standing (sSeq st1_read_standing st2_read_standing))
def m_read_standing : Mf := Md.run 0 1 2 (xtF 0) sm_read_standing
theorem sc_read_standing : FnScope ["text", "standing"] ["text"] d_read_standing.scope := ⟨rfl, rfl, rfl, by decide +kernel, rfl, by decide +kernel, by decide +kernel⟩
theorem n_read_standing : (["text", "standing"] : List Str).Nodup := by decide +kernel
theorem b_read_standing {P : Program} {w : World} {K : PySem.W.Frag} {mg : Str → Option Value} {base : Heap} (Y : FX K mg) (f : Addr) (cdv : Value) (A : Around) (outer : List Env) (s : Shared) (H : Hp) (E : XK) (hr : RoomG 3 (A.deeper (envOfC d_read_standing.qual d_read_standing.scope s.heap.objs.size f cdv))) :
    MSs (cxOf (L2.CX P w) P w K mg base ["text", "standing"] d_read_standing.qual d_read_standing.scope f cdv A outer s H E) (fun cls d _ H => E cls d H) 0 d_read_standing.body sm_read_standing :=
  have hN := n_read_standing
  (mss_cons (ms_set (i := 1) hN (me_call ((f_numbers_in Y).mono (lv' := 3) (by decide)) call_p hr rfl tkF (ma_cons (me_name 0) ma_nil))) (mss_cons (ms_ex (me_call ((f_need_text Y).mono (lv' := 3) (by decide)) call_p hr rfl tkF (ma_cons (me_call ((f_are_amounts Y).mono (lv' := 3) (by decide)) call_p hr rfl tkF (ma_cons (me_name 1) ma_nil)) ma_nil))) (mss_one (ms_ret (me_name 1)))))
theorem f_read_standing {P : Program} {w : World} {K : PySem.W.Frag} {mg : Str → Option Value} {base : Heap} (Y : FX K mg) : FnM P w K mg base 4 "read_standing" m_read_standing :=
  fnM_of Y 18 18 (d := d_read_standing) (Sc := sc_read_standing) (hx := (xtF_ok 0)) (hb := fun _ _ _ _ _ _ us hl => match us, hl with | [_], _ => rfl) (h := b_read_standing Y)
theorem fk0_read_standing {P : Program} {w : World} {K : PySem.W.Frag} {mg : Str → Option Value} {base : Heap} (Y : FX K mg) : FnK P w K mg base 4 "read_standing" 0 ["text"] [0] m_read_standing :=
  fnK_of Y 18 18 (d := d_read_standing) (Sc := sc_read_standing) (hx := (xtF_ok 0)) (hb := fun _ _ _ _ _ _ us ws h1 h2 => match us, ws, h1, h2 with | [], [_], _, _ => rfl) (h := b_read_standing Y)
def st0_ask_in : Sm := (sAsg (gT 2 (gsC (gN 1) (gsC (gN 2) gsN))) (eCall (gP m_two_in) (eCons (eName 0) eNil)))
def st1_ask_in : Sm := (sRet (eTup (eCons (eCall (gP m_numbers_in) (eCons (eName 1) eNil)) (eCons (eCall (gP m_numbers_in) (eCons (eName 2) eNil)) eNil))))
def sm_ask_in : Sm := (sSeq st0_ask_in st1_ask_in)
def m_ask_in : Mf := Md.run 0 1 3 (xtF 0) sm_ask_in
theorem sc_ask_in : FnScope ["word", "wants", "leaves"] ["word"] d_ask_in.scope := ⟨rfl, rfl, rfl, by decide +kernel, rfl, by decide +kernel, by decide +kernel⟩
theorem n_ask_in : (["word", "wants", "leaves"] : List Str).Nodup := by decide +kernel
theorem b_ask_in {P : Program} {w : World} {K : PySem.W.Frag} {mg : Str → Option Value} {base : Heap} (Y : FX K mg) (f : Addr) (cdv : Value) (A : Around) (outer : List Env) (s : Shared) (H : Hp) (E : XK) (hr : RoomG 3 (A.deeper (envOfC d_ask_in.qual d_ask_in.scope s.heap.objs.size f cdv))) :
    MSs (cxOf (L2.CX P w) P w K mg base ["word", "wants", "leaves"] d_ask_in.qual d_ask_in.scope f cdv A outer s H E) (fun cls d _ H => E cls d H) 0 d_ask_in.body sm_ask_in :=
  have hN := n_ask_in
  (mss_cons (ms_asg (me_call ((f_two_in Y).mono (lv' := 3) (by decide)) call_p hr rfl tkF (ma_cons (me_name 0) ma_nil)) (mg_tup rfl (mgs_cons (mg_name 1 hN) (mgs_cons (mg_name 2 hN) mgs_nil)))) (mss_one (ms_ret (me_tup (ma_cons (me_call ((f_numbers_in Y).mono (lv' := 3) (by decide)) call_p hr rfl tkF (ma_cons (me_name 1) ma_nil)) (ma_cons (me_call ((f_numbers_in Y).mono (lv' := 3) (by decide)) call_p hr rfl tkF (ma_cons (me_name 2) ma_nil)) ma_nil))))))
theorem f_ask_in {P : Program} {w : World} {K : PySem.W.Frag} {mg : Str → Option Value} {base : Heap} (Y : FX K mg) : FnM P w K mg base 4 "ask_in" m_ask_in :=
  fnM_of Y 19 19 (d := d_ask_in) (Sc := sc_ask_in) (hx := (xtF_ok 0)) (hb := fun _ _ _ _ _ _ us hl => match us, hl with | [_], _ => rfl) (h := b_ask_in Y)
def st0_read_day : Sm := (sEx (eCall (gP m_need_text) (eCons (eIsi .str (eName 0)) eNil)))
def st1_read_day : Sm := (sRet (eOwn (eLst eNil)))
def st2_read_day : Sm := (sIf (eTest (eOp2 (onR eqR) (eName 0) (er (.v (.str "."))))) st1_read_day sNx)
def lc0_read_day : Em (List D) := eLc (eIt (eFz (eSplit (eName 0) (er (.v (.str ";")))))) [2] (gN 2) eYes (eCall (gP m_ask_in) (eCons (eName 2) eNil))
def st3_read_day : Sm := (sSet 1 (eOwn lc0_read_day))
def st4_read_day : Sm := (sEx (eCall (gP m_need_text) (eCons (eCall (gBr m_is_day) (eCons (er (.v (.tup [.non, .non, .non, .non, .non, .non, .non, .non, .non]))) (eCons (eName 1) eNil))) eNil)))
def st5_read_day : Sm := (sRet (eName 1))
def sm_read_day : Sm := (sSeq st0_read_day (sSeq st2_read_day (sSeq st3_read_day (sSeq st4_read_day st5_read_day))))
def m_read_day : Mf := Md.run 0 1 3 (xtO 0) sm_read_day
theorem sc_read_day : FnScope ["text", "day", "word"] ["text"] d_read_day.scope := ⟨rfl, rfl, rfl, by decide +kernel, rfl, by decide +kernel, by decide +kernel⟩
theorem n_read_day : (["text", "day", "word"] : List Str).Nodup := by decide +kernel
theorem b_read_day {P : Program} {w : World} {K : PySem.W.Frag} {mg : Str → Option Value} {base : Heap} (Y : FX K mg) (f : Addr) (cdv : Value) (A : Around) (outer : List Env) (s : Shared) (H : Hp) (E : XK) (hr : RoomG 5 (A.deeper (envOfC d_read_day.qual d_read_day.scope s.heap.objs.size f cdv))) :
    MSs (cxOf (L2.CX P w) P w K mg base ["text", "day", "word"] d_read_day.qual d_read_day.scope f cdv A outer s H E) (fun cls d _ H => E cls d H) 0 d_read_day.body sm_read_day :=
  have hN := n_read_day
  (mss_cons (ms_ex (me_call ((f_need_text Y).mono (lv' := 5) (by decide)) call_p hr rfl tkF (ma_cons (me_isi .str rfl (Y.free 37) rfl (Y.free 45) rfl (me_name 0)) ma_nil))) (mss_cons (ms_if (mt_cmp (op_eqR hr.u64) (me_name 0) (me_gstr rfl (Y.str 50)) (nomark _)) (mss_one (ms_ret (me_own (mf_lst ma_nil)))) mss_nil) (mss_cons (ms_setLc (own' := true) (own := [("word", 2)]) rfl hN (mi_seq (me_frz (mf_split (me_name 0) me_str))) (blkOk_by rfl) (by decide) (fun _ _ _ _ _ => (mg_name 2 hN)) (fun _ _ _ _ _ => mts_nil) (fun _ _ _ _ _ => (me_call ((f_ask_in Y).mono (lv' := 5) (by decide)) call_p hr rfl tk0 (ma_cons (me_name 2) ma_nil))) rfl) (mss_cons (ms_ex (me_call ((f_need_text Y).mono (lv' := 5) (by decide)) call_p hr rfl tkF (ma_cons (me_call ((f_is_day Y).mono (lv' := 5) (by decide)) call_br hr rfl tkF (ma_cons (gt_WIDEST Y rfl) (ma_cons (me_name 1) ma_nil))) ma_nil))) (mss_one (ms_ret (me_name 1)))))))
theorem f_read_day {P : Program} {w : World} {K : PySem.W.Frag} {mg : Str → Option Value} {base : Heap} (Y : FX K mg) : FnM P w K mg base 6 "read_day" m_read_day :=
  fnM_of Y 20 20 (d := d_read_day) (Sc := sc_read_day) (hx := (xtO_ok 0)) (hb := fun _ _ _ _ _ _ us hl => match us, hl with | [_], _ => rfl) (h := b_read_day Y)
theorem fk5_read_day {P : Program} {w : World} {K : PySem.W.Frag} {mg : Str → Option Value} {base : Heap} (Y : FX K mg) : FnK P w K mg base 6 "read_day" 0 ["text"] [0] m_read_day :=
  fnK_of Y 20 20 (d := d_read_day) (Sc := sc_read_day) (hx := (xtO_ok 0)) (hb := fun _ _ _ _ _ _ us ws h1 h2 => match us, ws, h1, h2 with | [], [_], _, _ => rfl) (h := b_read_day Y)
def st0__law_cart : Sm := (sSet 2 (er (.v (.int 0))))
def st1__law_cart : Sm := (sSet 2 (eOp2 ixS (eName 0) (eName 1)))
def st2__law_cart : Sm := (sIf (eTest (eOp2 (onD ltD) (eName 1) (eCall (lenS) (eCons (eName 0) eNil)))) st1__law_cart sNx)
def st3__law_cart : Sm := (sRet (eOwn (eLst (eCons (eCall (onL maxL) (eCons (er (.v (.int 0))) (eCons (eOp2 (onD subD) (eCall (onL absL) (eCons (eName 2) eNil)) (eOp2 (onD powD) (er (.v (.int 10))) (er (.v (.int 18))))) eNil))) (eCons (eOp2 (onD addD) (eOp2 (onD modD) (eName 2) (eOp2 (onD addD) (eOp2 (onD powD) (er (.v (.int 10))) (er (.v (.int 37)))) (er (.v (.int 43))))) (eOp2 (onD mulD) (er (.v (.int 11587))) (eName 1))) (eCons (er (.v (.int 0))) eNil))))))
def sm__law_cart : Sm := (sSeq st0__law_cart (sSeq st2__law_cart st3__law_cart))
def m__law_cart : Mf := Md.run 0 2 3 (xtO 0) sm__law_cart
theorem sc__law_cart : FnScope ["script", "k", "cell"] ["script", "k"] d__law_cart.scope := ⟨rfl, rfl, rfl, by decide +kernel, rfl, by decide +kernel, by decide +kernel⟩
theorem n__law_cart : (["script", "k", "cell"] : List Str).Nodup := by decide +kernel
theorem b__law_cart {P : Program} {w : World} {K : PySem.W.Frag} {mg : Str → Option Value} {base : Heap} (Y : FX K mg) (f : Addr) (cdv : Value) (A : Around) (outer : List Env) (s : Shared) (H : Hp) (E : XK) (hr : RoomG 0 (A.deeper (envOfC d__law_cart.qual d__law_cart.scope s.heap.objs.size f cdv))) :
    MSs (cxOf (L2.CX P w) P w K mg base ["script", "k", "cell"] d__law_cart.qual d__law_cart.scope f cdv A outer s H E) (fun cls d _ H => E cls d H) 0 d__law_cart.body sm__law_cart :=
  have hN := n__law_cart
  (mss_cons (ms_set (i := 2) hN me_int) (mss_cons (ms_if (mt_cmp op_ltD (me_name 1) (me_callB cm_len rfl (Y.free 38) rfl (ma_cons (me_name 0) ma_nil)) (nomark _)) (mss_one (ms_set (i := 2) hN (me_ix (me_name 0) (me_name 1) (fun _ _ => rfl)))) mss_nil) (mss_one (ms_ret (me_own (mf_lst (ma_cons (me_callB cm_max rfl (Y.free 40) rfl (ma_cons me_int (ma_cons (me_bin op_subD (me_callB cm_abs rfl (Y.free 33) rfl (ma_cons (me_name 2) ma_nil)) (me_bin op_powD me_int me_int)) ma_nil))) (ma_cons (me_bin op_addD (me_bin op_modD (me_name 2) (me_bin op_addD (me_bin op_powD me_int me_int) me_int)) (me_bin op_mulD me_int (me_name 1))) (ma_cons me_int ma_nil)))))))))
theorem f__law_cart {P : Program} {w : World} {K : PySem.W.Frag} {mg : Str → Option Value} {base : Heap} (Y : FX K mg) : FnM P w K mg base 1 "_law_cart" m__law_cart :=
  fnM_of Y 21 21 (d := d__law_cart) (Sc := sc__law_cart) (hx := (xtO_ok 0)) (hb := fun _ _ _ _ _ _ us hl => match us, hl with | [_, _], _ => rfl) (h := b__law_cart Y)
def st0__law_pull : Sm := (sSet 3 (eOp2 (onD modD) (eOp2 ixS (eName 0) (er (.v (.int 0)))) (eName 1)))
def st1__law_pull : Sm := (sSetIx (eName 0) (er (.v (.int 0))) (eOp2 (onD divD) (eOp2 ixS (eName 0) (er (.v (.int 0)))) (eName 1)))
def st2__law_pull : Sm := (sRet (eName 3))
def st3__law_pull : Sm := (sIf (eTest (eOp2 (onD gtD) (eOp2 ixS (eName 0) (er (.v (.int 0)))) (er (.v (.int 0))))) (sSeq st0__law_pull (sSeq st1__law_pull st2__law_pull)) sNx)
def st4__law_pull : Sm := (sSetIx (eName 0) (er (.v (.int 2))) (eOp2 (onD addD) (eOp2 ixS (eName 0) (er (.v (.int 2)))) (er (.v (.int 1)))))
def st5__law_pull : Sm := (sSet 2 (eOp2 (onD modD) (eOp2 (onD powD) (eOp2 (onD addD) (eOp2 ixS (eName 0) (er (.v (.int 1)))) (eOp2 (onD mulD) (er (.v (.int 32452843))) (eOp2 ixS (eName 0) (er (.v (.int 2)))))) (er (.v (.int 3)))) (eOp2 (onD addD) (eOp2 (onD powD) (er (.v (.int 10))) (er (.v (.int 38)))) (er (.v (.int 133))))))
def st6__law_pull : Sm := (sSet 2 (eOp2 (onD modD) (eOp2 (onD powD) (eOp2 (onD addD) (eName 2) (eOp2 (onD mulD) (er (.v (.int 141650939))) (eOp2 ixS (eName 0) (er (.v (.int 2)))))) (er (.v (.int 3)))) (eOp2 (onD addD) (eOp2 (onD powD) (er (.v (.int 10))) (er (.v (.int 35)))) (er (.v (.int 69))))))
def st7__law_pull : Sm := (sRet (eOp2 (onD modD) (eOp2 (onD divD) (eName 2) (er (.v (.int 131071)))) (eName 1)))
def sm__law_pull : Sm := (sSeq st3__law_pull (sSeq st4__law_pull (sSeq st5__law_pull (sSeq st6__law_pull st7__law_pull))))
def m__law_pull : Mf := Md.run 1 2 4 (xtF 1) sm__law_pull
theorem sc__law_pull : FnScope ["cart", "wide", "mixed", "found"] ["cart", "wide"] d__law_pull.scope := ⟨rfl, rfl, rfl, by decide +kernel, rfl, by decide +kernel, by decide +kernel⟩
theorem n__law_pull : (["cart", "wide", "mixed", "found"] : List Str).Nodup := by decide +kernel
theorem b__law_pull {P : Program} {w : World} {K : PySem.W.Frag} {mg : Str → Option Value} {base : Heap} (Y : FX K mg) (f : Addr) (cdv : Value) (A : Around) (outer : List Env) (s : Shared) (H : Hp) (E : XK) (hr : RoomG 0 (A.deeper (envOfC d__law_pull.qual d__law_pull.scope s.heap.objs.size f cdv))) :
    MSs (cxOf (L2.CX P w) P w K mg base ["cart", "wide", "mixed", "found"] d__law_pull.qual d__law_pull.scope f cdv A outer s H E) (fun cls d _ H => E cls d H) 1 d__law_pull.body sm__law_pull :=
  have hN := n__law_pull
  (mss_cons (ms_if (mt_cmp op_gtD (me_ix (me_name 0) me_int (fun _ _ => rfl)) me_int (nomark _)) (mss_cons (ms_set (i := 3) hN (me_bin op_modD (me_ix (me_name 0) me_int (fun _ _ => rfl)) (me_name 1))) (mss_cons (ms_setix (me_bin op_divD (me_ix (me_name 0) me_int (fun _ _ => rfl)) (me_name 1)) (me_name 0) me_int) (mss_one (ms_ret (me_name 3))))) mss_nil) (mss_cons (ms_setix (me_bin op_addD (me_ix (me_name 0) me_int (fun _ _ => rfl)) me_int) (me_name 0) me_int) (mss_cons (ms_set (i := 2) hN (me_bin op_modD (me_bin op_powD (me_bin op_addD (me_ix (me_name 0) me_int (fun _ _ => rfl)) (me_bin op_mulD me_int (me_ix (me_name 0) me_int (fun _ _ => rfl)))) me_int) (me_bin op_addD (me_bin op_powD me_int me_int) me_int))) (mss_cons (ms_set (i := 2) hN (me_bin op_modD (me_bin op_powD (me_bin op_addD (me_name 2) (me_bin op_mulD me_int (me_ix (me_name 0) me_int (fun _ _ => rfl)))) me_int) (me_bin op_addD (me_bin op_powD me_int me_int) me_int))) (mss_one (ms_ret (me_bin op_modD (me_bin op_divD (me_name 2) me_int) (me_name 1))))))))
theorem f__law_pull {P : Program} {w : World} {K : PySem.W.Frag} {mg : Str → Option Value} {base : Heap} (Y : FX K mg) : FnM P w K mg base 1 "_law_pull" m__law_pull :=
  fnM_of Y 22 22 (d := d__law_pull) (Sc := sc__law_pull) (hx := (xtF_ok 1)) (hb := fun _ _ _ _ _ _ us hl => match us, hl with | [_, _], _ => rfl) (h := b__law_pull Y)
def st0__law_rooms : Sm := (sSet 2 (eCall (gB m__law_pull) (eCons (eName 0) (eCons (er (.v (.int 3))) eNil))))
def st1__law_rooms : Sm := (sSet 3 (eOwn (eLst eNil)))
def st2__law_rooms : Sm := (sEx (eMeL (onLs appF) (eName 3) (eCons (eOp2 ixS (eFz (eLst (eCons (er (.v .non)) (eCons (eCall (gB m__law_pull) (eCons (eName 0) (eCons (er (.v (.int 4))) eNil))) (eCons (eCall (gB m__law_pull) (eCons (eName 0) (eCons (eOp2 (onD powD) (er (.v (.int 10))) (er (.v (.int 12)))) eNil))) eNil))))) (eCall (gB m__law_pull) (eCons (eName 0) (eCons (eOp2 (onD addD) (er (.v (.int 1))) (eName 2)) eNil)))) eNil)))
def bo0__law_rooms : Sm := (sKill [4] st2__law_rooms)
def fo0__law_rooms : Sm := sFor (eItL rng1 (eCons (eOp2 (onD addD) (er (.v (.int 1))) (eCall (gB m__law_pull) (eCons (eName 0) (eCons (eName 1) eNil)))) eNil)) (gN 4) bo0__law_rooms
def st3__law_rooms : Sm := (sRet (eCall (tupS) (eCons (eName 3) eNil)))
def sm__law_rooms : Sm := (sSeq st0__law_rooms (sSeq st1__law_rooms (sSeq fo0__law_rooms st3__law_rooms)))
def m__law_rooms : Mf := Md.run 1 2 5 (xtF 1) sm__law_rooms
theorem sc__law_rooms : FnScope ["cart", "most", "lean", "found", "k"] ["cart", "most"] d__law_rooms.scope := ⟨rfl, rfl, rfl, by decide +kernel, rfl, by decide +kernel, by decide +kernel⟩
theorem n__law_rooms : (["cart", "most", "lean", "found", "k"] : List Str).Nodup := by decide +kernel
theorem b__law_rooms {P : Program} {w : World} {K : PySem.W.Frag} {mg : Str → Option Value} {base : Heap} (Y : FX K mg) (f : Addr) (cdv : Value) (A : Around) (outer : List Env) (s : Shared) (H : Hp) (E : XK) (hr : RoomG 1 (A.deeper (envOfC d__law_rooms.qual d__law_rooms.scope s.heap.objs.size f cdv))) :
    MSs (cxOf (L2.CX P w) P w K mg base ["cart", "most", "lean", "found", "k"] d__law_rooms.qual d__law_rooms.scope f cdv A outer s H E) (fun cls d _ H => E cls d H) 1 d__law_rooms.body sm__law_rooms :=
  have hN := n__law_rooms
  (mss_cons (ms_set (i := 2) hN (me_call ((f__law_pull Y).mono (lv' := 1) (by decide)) call_b hr rfl tkF (ma_cons (me_name 0) (ma_cons me_int ma_nil)))) (mss_cons (ms_set (i := 3) hN (me_own (mf_lst ma_nil))) (mss_cons (ms_for poF rfl (mi_range1 rfl (Y.free 42) (ma_cons (me_bin op_addD me_int (me_call ((f__law_pull Y).mono (lv' := 1) (by decide)) call_b hr rfl tkF (ma_cons (me_name 0) (ma_cons (me_name 1) ma_nil)))) ma_nil)) (mg_name 4 hN) (mss_kill [4] (mss_one (ms_ex (me_meL mm_append PySem.F.slot_list_append PySem.F.type_list_append (me_name 3) (ma_cons (me_ix (me_frz (mf_lst (ma_cons me_non (ma_cons (me_call ((f__law_pull Y).mono (lv' := 1) (by decide)) call_b hr rfl tkF (ma_cons (me_name 0) (ma_cons me_int ma_nil))) (ma_cons (me_call ((f__law_pull Y).mono (lv' := 1) (by decide)) call_b hr rfl tkF (ma_cons (me_name 0) (ma_cons (me_bin op_powD me_int me_int) ma_nil))) ma_nil))))) (me_call ((f__law_pull Y).mono (lv' := 1) (by decide)) call_b hr rfl tkF (ma_cons (me_name 0) (ma_cons (me_bin op_addD me_int (me_name 2)) ma_nil))) (fun _ _ => rfl)) ma_nil)))))) (mss_one (ms_ret (me_callT cm_tuple rfl (Y.free 46) rfl (ma_cons (me_name 3) ma_nil)))))))
theorem f__law_rooms {P : Program} {w : World} {K : PySem.W.Frag} {mg : Str → Option Value} {base : Heap} (Y : FX K mg) : FnM P w K mg base 2 "_law_rooms" m__law_rooms :=
  fnM_of Y 23 23 (d := d__law_rooms) (Sc := sc__law_rooms) (hx := (xtF_ok 1)) (hb := fun _ _ _ _ _ _ us hl => match us, hl with | [_, _], _ => rfl) (h := b__law_rooms Y)
def st0__law_things : Sm := (sSet 2 (eOwn (eLst eNil)))
def st1__law_things : Sm := (sSet 4 (eOp2 ixS (eFz (eLst (eCons (er (.v (.int 0))) (eCons (er (.v (.int 0))) (eCons (er (.v (.int 1))) (eCons (eCall (gB m__law_pull) (eCons (eName 0) (eCons (er (.v (.int 4))) eNil))) (eCons (eCall (gB m__law_pull) (eCons (eName 0) (eCons (eOp2 (onD powD) (er (.v (.int 10))) (er (.v (.int 12)))) eNil))) eNil))))))) (eCall (gB m__law_pull) (eCons (eName 0) (eCons (er (.v (.int 5))) eNil)))))
def st2__law_things : Sm := (sSet 4 (eOp2 ixS (eFz (eLst (eCons (eCall (onL minL) (eCons (eName 4) (eCons (eName 3) eNil))) (eCons (eName 3) eNil)))) (eOp2 (onD divD) (eCall (gB m__law_pull) (eCons (eName 0) (eCons (er (.v (.int 4))) eNil))) (er (.v (.int 3))))))
def st3__law_things : Sm := (sIf (eTest (eOp2 notN (eName 3) (er (.v .non)))) st2__law_things sNx)
def st4__law_things : Sm := (sEx (eMeL (onLs appF) (eName 2) (eCons (eName 4) eNil)))
def bo0__law_things : Sm := (sKill [3, 4] (sSeq st1__law_things (sSeq st3__law_things st4__law_things)))
def fo0__law_things : Sm := sFor (eIt (eName 1)) (gN 3) bo0__law_things
def st5__law_things : Sm := (sRet (eCall (tupS) (eCons (eName 2) eNil)))
def sm__law_things : Sm := (sSeq st0__law_things (sSeq fo0__law_things st5__law_things))
def m__law_things : Mf := Md.run 1 2 5 (xtF 1) sm__law_things
theorem sc__law_things : FnScope ["cart", "rooms", "found", "room", "some"] ["cart", "rooms"] d__law_things.scope := ⟨rfl, rfl, rfl, by decide +kernel, rfl, by decide +kernel, by decide +kernel⟩
theorem n__law_things : (["cart", "rooms", "found", "room", "some"] : List Str).Nodup := by decide +kernel
theorem b__law_things {P : Program} {w : World} {K : PySem.W.Frag} {mg : Str → Option Value} {base : Heap} (Y : FX K mg) (f : Addr) (cdv : Value) (A : Around) (outer : List Env) (s : Shared) (H : Hp) (E : XK) (hr : RoomG 1 (A.deeper (envOfC d__law_things.qual d__law_things.scope s.heap.objs.size f cdv))) :
    MSs (cxOf (L2.CX P w) P w K mg base ["cart", "rooms", "found", "room", "some"] d__law_things.qual d__law_things.scope f cdv A outer s H E) (fun cls d _ H => E cls d H) 1 d__law_things.body sm__law_things :=
  have hN := n__law_things
  (mss_cons (ms_set (i := 2) hN (me_own (mf_lst ma_nil))) (mss_cons (ms_for poF rfl (mi_seq (me_name 1)) (mg_name 3 hN) (mss_kill [3, 4] (mss_cons (ms_set (i := 4) hN (me_ix (me_frz (mf_lst (ma_cons me_int (ma_cons me_int (ma_cons me_int (ma_cons (me_call ((f__law_pull Y).mono (lv' := 1) (by decide)) call_b hr rfl tkF (ma_cons (me_name 0) (ma_cons me_int ma_nil))) (ma_cons (me_call ((f__law_pull Y).mono (lv' := 1) (by decide)) call_b hr rfl tkF (ma_cons (me_name 0) (ma_cons (me_bin op_powD me_int me_int) ma_nil))) ma_nil))))))) (me_call ((f__law_pull Y).mono (lv' := 1) (by decide)) call_b hr rfl tkF (ma_cons (me_name 0) (ma_cons me_int ma_nil))) (fun _ _ => rfl))) (mss_cons (ms_if (mt_notN (me_name 3)) (mss_one (ms_set (i := 4) hN (me_ix (me_frz (mf_lst (ma_cons (me_callB cm_min rfl (Y.free 41) rfl (ma_cons (me_name 4) (ma_cons (me_name 3) ma_nil))) (ma_cons (me_name 3) ma_nil)))) (me_bin op_divD (me_call ((f__law_pull Y).mono (lv' := 1) (by decide)) call_b hr rfl tkF (ma_cons (me_name 0) (ma_cons me_int ma_nil))) me_int) (fun _ _ => rfl)))) mss_nil) (mss_one (ms_ex (me_meL mm_append PySem.F.slot_list_append PySem.F.type_list_append (me_name 2) (ma_cons (me_name 4) ma_nil)))))))) (mss_one (ms_ret (me_callT cm_tuple rfl (Y.free 46) rfl (ma_cons (me_name 2) ma_nil))))))
theorem f__law_things {P : Program} {w : World} {K : PySem.W.Frag} {mg : Str → Option Value} {base : Heap} (Y : FX K mg) : FnM P w K mg base 2 "_law_things" m__law_things :=
  fnM_of Y 24 24 (d := d__law_things) (Sc := sc__law_things) (hx := (xtF_ok 1)) (hb := fun _ _ _ _ _ _ us hl => match us, hl with | [_, _], _ => rfl) (h := b__law_things Y)
def st0__law_some : Sm := (sSet 2 (eOwn (eLRg1 (eName 1))))
def st1__law_some : Sm := (sSet 3 (eCall (gB m__law_pull) (eCons (eName 0) (eCons (eOp2 (onD addD) (er (.v (.int 1))) (eOp2 ixS (eFz (eLst (eCons (eCall (onL minL) (eCons (er (.v (.int 3))) (eCons (eName 1) eNil))) (eCons (eName 1) eNil)))) (eOp2 (onD divD) (eCall (gB m__law_pull) (eCons (eName 0) (eCons (er (.v (.int 4))) eNil))) (er (.v (.int 3)))))) eNil))))
def lc0__law_some : Em (List D) := eLc (eItL rng1 (eCons (eName 3) eNil)) [4] (gN 4) eYes (eMeL (onLs popF) (eName 2) (eCons (eCall (gB m__law_pull) (eCons (eName 0) (eCons (eCall (lenS) (eCons (eName 2) eNil)) eNil))) eNil))
def st2__law_some : Sm := (sRet (eCall (tupS) (eCons (eFz lc0__law_some) eNil)))
def sm__law_some : Sm := (sSeq st0__law_some (sSeq st1__law_some st2__law_some))
def m__law_some : Mf := Md.run 1 2 5 (xtF 1) sm__law_some
theorem sc__law_some : FnScope ["cart", "size", "left", "many", "k"] ["cart", "size"] d__law_some.scope := ⟨rfl, rfl, rfl, by decide +kernel, rfl, by decide +kernel, by decide +kernel⟩
theorem n__law_some : (["cart", "size", "left", "many", "k"] : List Str).Nodup := by decide +kernel
theorem b__law_some {P : Program} {w : World} {K : PySem.W.Frag} {mg : Str → Option Value} {base : Heap} (Y : FX K mg) (f : Addr) (cdv : Value) (A : Around) (outer : List Env) (s : Shared) (H : Hp) (E : XK) (hr : RoomG 1 (A.deeper (envOfC d__law_some.qual d__law_some.scope s.heap.objs.size f cdv))) :
    MSs (cxOf (L2.CX P w) P w K mg base ["cart", "size", "left", "many", "k"] d__law_some.qual d__law_some.scope f cdv A outer s H E) (fun cls d _ H => E cls d H) 1 d__law_some.body sm__law_some :=
  have hN := n__law_some
  (mss_cons (ms_set (i := 2) hN (me_own (mf_listRg1 rfl (Y.free 39) rfl (Y.free 42) (me_name 1)))) (mss_cons (ms_set (i := 3) hN (me_call ((f__law_pull Y).mono (lv' := 1) (by decide)) call_b hr rfl tkF (ma_cons (me_name 0) (ma_cons (me_bin op_addD me_int (me_ix (me_frz (mf_lst (ma_cons (me_callB cm_min rfl (Y.free 41) rfl (ma_cons me_int (ma_cons (me_name 1) ma_nil))) (ma_cons (me_name 1) ma_nil)))) (me_bin op_divD (me_call ((f__law_pull Y).mono (lv' := 1) (by decide)) call_b hr rfl tkF (ma_cons (me_name 0) (ma_cons me_int ma_nil))) me_int) (fun _ _ => rfl))) ma_nil)))) (mss_one (ms_ret (me_callT cm_tuple rfl (Y.free 46) rfl (ma_cons (me_frz (mf_lc (own := [("k", 4)]) rfl hN (mi_range1 rfl (Y.free 42) (ma_cons (me_name 3) ma_nil)) (blkOk_by rfl) (by decide) (fun _ _ _ _ _ => (mg_name 4 hN)) (fun _ _ _ _ _ => mts_nil) (fun _ _ _ _ _ => (me_meL mm_pop PySem.F.slot_list_pop PySem.F.type_list_pop (me_name 2) (ma_cons (me_call ((f__law_pull Y).mono (lv' := 1) (by decide)) call_b hr rfl tk0 (ma_cons (me_name 0) (ma_cons (me_callB cm_len rfl (Y.free 38) rfl (ma_cons (me_name 2) ma_nil)) ma_nil))) ma_nil))))) ma_nil))))))
theorem f__law_some {P : Program} {w : World} {K : PySem.W.Frag} {mg : Str → Option Value} {base : Heap} (Y : FX K mg) : FnM P w K mg base 2 "_law_some" m__law_some :=
  fnM_of Y 25 25 (d := d__law_some) (Sc := sc__law_some) (hx := (xtF_ok 1)) (hb := fun _ _ _ _ _ _ us hl => match us, hl with | [_, _], _ => rfl) (h := b__law_some Y)
def lc0__law_asks : Em (List D) := eLc (eItL rng1 (eCons (eCall (gB m__law_pull) (eCons (eName 0) (eCons (eOp2 (onD addD) (eName 2) (er (.v (.int 1)))) eNil))) eNil)) [3] (gN 3) eYes (eTup (eCons (eCall (gB m__law_some) (eCons (eName 0) (eCons (eName 1) eNil))) (eCons (eCall (gB m__law_some) (eCons (eName 0) (eCons (eName 1) eNil))) eNil)))
def st0__law_asks : Sm := (sRet (eFz lc0__law_asks))
def sm__law_asks : Sm := st0__law_asks
def m__law_asks : Mf := Md.run 1 3 4 (xtF 1) sm__law_asks
theorem sc__law_asks : FnScope ["cart", "size", "most", "k"] ["cart", "size", "most"] d__law_asks.scope := ⟨rfl, rfl, rfl, by decide +kernel, rfl, by decide +kernel, by decide +kernel⟩
theorem n__law_asks : (["cart", "size", "most", "k"] : List Str).Nodup := by decide +kernel
theorem b__law_asks {P : Program} {w : World} {K : PySem.W.Frag} {mg : Str → Option Value} {base : Heap} (Y : FX K mg) (f : Addr) (cdv : Value) (A : Around) (outer : List Env) (s : Shared) (H : Hp) (E : XK) (hr : RoomG 2 (A.deeper (envOfC d__law_asks.qual d__law_asks.scope s.heap.objs.size f cdv))) :
    MSs (cxOf (L2.CX P w) P w K mg base ["cart", "size", "most", "k"] d__law_asks.qual d__law_asks.scope f cdv A outer s H E) (fun cls d _ H => E cls d H) 1 d__law_asks.body sm__law_asks :=
  have hN := n__law_asks
  (mss_one (ms_ret (me_frz (mf_lc (own := [("k", 3)]) rfl hN (mi_range1 rfl (Y.free 42) (ma_cons (me_call ((f__law_pull Y).mono (lv' := 2) (by decide)) call_b hr rfl tkF (ma_cons (me_name 0) (ma_cons (me_bin op_addD (me_name 2) me_int) ma_nil))) ma_nil)) (blkOk_by rfl) (by decide) (fun _ _ _ _ _ => (mg_name 3 hN)) (fun _ _ _ _ _ => mts_nil) (fun _ _ _ _ _ => (me_tup (ma_cons (me_call ((f__law_some Y).mono (lv' := 2) (by decide)) call_b hr rfl tk0 (ma_cons (me_name 0) (ma_cons (me_name 1) ma_nil))) (ma_cons (me_call ((f__law_some Y).mono (lv' := 2) (by decide)) call_b hr rfl tk0 (ma_cons (me_name 0) (ma_cons (me_name 1) ma_nil))) ma_nil))))))))
theorem f__law_asks {P : Program} {w : World} {K : PySem.W.Frag} {mg : Str → Option Value} {base : Heap} (Y : FX K mg) : FnM P w K mg base 3 "_law_asks" m__law_asks :=
  fnM_of Y 26 26 (d := d__law_asks) (Sc := sc__law_asks) (hx := (xtF_ok 1)) (hb := fun _ _ _ _ _ _ us hl => match us, hl with | [_, _, _], _ => rfl) (h := b__law_asks Y)
def st0__law_put_by : Sm := (sSet 2 (er (.v (.str ""))))
def st1__law_put_by : Sm := (sSet 2 (eOp2 (onD addD) (eOp2 (onD addD) (eName 2) (eOp2 ixS (eFz (eLst (eCons (er (.v (.str ""))) (eCons (eName 1) eNil)))) (eCall (onL minL) (eCons (eName 3) (eCons (er (.v (.int 1))) eNil))))) (eOp2 ixS (eName 0) (eName 3))))
def bo0__law_put_by : Sm := (sKill [3] st1__law_put_by)
def fo0__law_put_by : Sm := sFor (eItL rng1 (eCons (eCall (lenS) (eCons (eName 0) eNil)) eNil)) (gN 3) bo0__law_put_by
def st2__law_put_by : Sm := (sRet (eName 2))
def sm__law_put_by : Sm := (sSeq st0__law_put_by (sSeq fo0__law_put_by st2__law_put_by))
def m__law_put_by : Mf := Md.run 0 2 4 (xtF 0) sm__law_put_by
theorem sc__law_put_by : FnScope ["words", "between", "line", "k"] ["words", "between"] d__law_put_by.scope := ⟨rfl, rfl, rfl, by decide +kernel, rfl, by decide +kernel, by decide +kernel⟩
theorem n__law_put_by : (["words", "between", "line", "k"] : List Str).Nodup := by decide +kernel
theorem b__law_put_by {P : Program} {w : World} {K : PySem.W.Frag} {mg : Str → Option Value} {base : Heap} (Y : FX K mg) (f : Addr) (cdv : Value) (A : Around) (outer : List Env) (s : Shared) (H : Hp) (E : XK) (hr : RoomG 0 (A.deeper (envOfC d__law_put_by.qual d__law_put_by.scope s.heap.objs.size f cdv))) :
    MSs (cxOf (L2.CX P w) P w K mg base ["words", "between", "line", "k"] d__law_put_by.qual d__law_put_by.scope f cdv A outer s H E) (fun cls d _ H => E cls d H) 0 d__law_put_by.body sm__law_put_by :=
  have hN := n__law_put_by
  (mss_cons (ms_set (i := 2) hN me_str) (mss_cons (ms_for poF rfl (mi_range1 rfl (Y.free 42) (ma_cons (me_callB cm_len rfl (Y.free 38) rfl (ma_cons (me_name 0) ma_nil)) ma_nil)) (mg_name 3 hN) (mss_kill [3] (mss_one (ms_set (i := 2) hN (me_bin op_addD (me_bin op_addD (me_name 2) (me_ix (me_frz (mf_lst (ma_cons me_str (ma_cons (me_name 1) ma_nil)))) (me_callB cm_min rfl (Y.free 41) rfl (ma_cons (me_name 3) (ma_cons me_int ma_nil))) (fun _ _ => rfl))) (me_ix (me_name 0) (me_name 3) (fun _ _ => rfl))))))) (mss_one (ms_ret (me_name 2)))))
theorem f__law_put_by {P : Program} {w : World} {K : PySem.W.Frag} {mg : Str → Option Value} {base : Heap} (Y : FX K mg) : FnM P w K mg base 1 "_law_put_by" m__law_put_by :=
  fnM_of Y 27 27 (d := d__law_put_by) (Sc := sc__law_put_by) (hx := (xtF_ok 0)) (hb := fun _ _ _ _ _ _ us hl => match us, hl with | [_, _], _ => rfl) (h := b__law_put_by Y)
def lc0__law_texts : Em (List D) := eLc (eIt (eName 0)) [9] (gN 9) eYes (eOp2 ixS (eFz (eLst (eCons (er (.v (.str "-"))) (eCons (eCall (onL strL2) (eCons (eName 9) eNil)) eNil)))) (eCall (onL intL2) (eCons (eOp2 notN (eName 9) (er (.v .non))) eNil)))
def st0__law_texts : Sm := (sSet 3 (eFz lc0__law_texts))
def lc1__law_texts : Em (List D) := eLc (eIt (eName 1)) [11] (gN 11) eYes (eCall (onL strL2) (eCons (eName 11) eNil))
def st1__law_texts : Sm := (sSet 4 (eFz (eLst (eCons (eCall (gP m__law_put_by) (eCons (eName 3) (eCons (er (.v (.str " "))) eNil))) (eCons (eCall (gP m__law_put_by) (eCons (eFz lc1__law_texts) (eCons (er (.v (.str " "))) eNil))) eNil)))))
def st2__law_texts : Sm := (sSet 5 (eOwn (eLst eNil)))
def lc2__law_texts : Em (List D) := eLc (eIt (eName 10)) [12] (gN 12) eYes (eCall (onL strL2) (eCons (eName 12) eNil))
def lc3__law_texts : Em (List D) := eLc (eIt (eTup (eCons (eName 6) (eCons (eName 7) eNil)))) [10] (gN 10) eYes (eCall (gP m__law_put_by) (eCons (eFz lc2__law_texts) (eCons (er (.v (.str " "))) eNil)))
def st3__law_texts : Sm := (sSet 8 (eFz lc3__law_texts))
def st4__law_texts : Sm := (sEx (eMeL (onLs appF) (eName 5) (eCons (eOp2 (onD addD) (eOp2 (onD addD) (eOp2 ixS (eName 8) (er (.v (.int 0)))) (er (.v (.str ">")))) (eOp2 ixS (eName 8) (er (.v (.int 1))))) eNil)))
def bo0__law_texts : Sm := (sKill [6, 7, 8, 10, 12] (sSeq st3__law_texts st4__law_texts))
def fo0__law_texts : Sm := sFor (eIt (eName 2)) (gT 2 (gsC (gN 6) (gsC (gN 7) gsN))) bo0__law_texts
def st5__law_texts : Sm := (sRet (eFz (eAddL (eName 4) (eFz (eLst (eCons (eIf (eTest (eOp2 (onR eqR) (eName 5) (eFz (eLst eNil)))) (er (.v (.str "."))) (eCall (gBr m__law_put_by) (eCons (eName 5) (eCons (er (.v (.str ";"))) eNil)))) eNil))))))
def sm__law_texts : Sm := (sSeq st0__law_texts (sSeq st1__law_texts (sSeq st2__law_texts (sSeq fo0__law_texts st5__law_texts))))
def m__law_texts : Mf := Md.run 0 3 13 (xtF 0) sm__law_texts
theorem sc__law_texts : FnScope ["rooms", "lie", "asks", "words", "found", "rows", "wants", "leaves", "names", "room", "some", "many", "place"] ["rooms", "lie", "asks"] d__law_texts.scope := ⟨rfl, rfl, rfl, by decide +kernel, rfl, by decide +kernel, by decide +kernel⟩
theorem n__law_texts : (["rooms", "lie", "asks", "words", "found", "rows", "wants", "leaves", "names", "room", "some", "many", "place"] : List Str).Nodup := by decide +kernel
theorem b__law_texts {P : Program} {w : World} {K : PySem.W.Frag} {mg : Str → Option Value} {base : Heap} (Y : FX K mg) (f : Addr) (cdv : Value) (A : Around) (outer : List Env) (s : Shared) (H : Hp) (E : XK) (hr : RoomG 1 (A.deeper (envOfC d__law_texts.qual d__law_texts.scope s.heap.objs.size f cdv))) :
    MSs (cxOf (L2.CX P w) P w K mg base ["rooms", "lie", "asks", "words", "found", "rows", "wants", "leaves", "names", "room", "some", "many", "place"] d__law_texts.qual d__law_texts.scope f cdv A outer s H E) (fun cls d _ H => E cls d H) 0 d__law_texts.body sm__law_texts :=
  have hN := n__law_texts
  (mss_cons (ms_setLc (own' := false) (own := [("room", 9)]) rfl hN (mi_seq (me_name 0)) (blkOk_by rfl) (by decide) (fun _ _ _ _ _ => (mg_name 9 hN)) (fun _ _ _ _ _ => mts_nil) (fun _ _ _ _ _ => (me_ix (me_frz (mf_lst (ma_cons me_str (ma_cons (me_callT cm_str2 rfl (Y.free 45) rfl (ma_cons (me_name 9) ma_nil)) ma_nil)))) (me_callT cm_int2 rfl (Y.free 36) rfl (ma_cons (me_notN (me_name 9)) ma_nil)) (fun _ _ => rfl))) rfl) (mss_cons (ms_set (i := 4) hN (me_frz (mf_lst (ma_cons (me_call ((f__law_put_by Y).mono (lv' := 1) (by decide)) call_p hr rfl tkF (ma_cons (me_name 3) (ma_cons me_str ma_nil))) (ma_cons (me_call ((f__law_put_by Y).mono (lv' := 1) (by decide)) call_p hr rfl tkF (ma_cons (me_frz (mf_lc (own := [("many", 11)]) rfl hN (mi_seq (me_name 1)) (blkOk_by rfl) (by decide) (fun _ _ _ _ _ => (mg_name 11 hN)) (fun _ _ _ _ _ => mts_nil) (fun _ _ _ _ _ => (me_callT cm_str2 rfl (Y.free 45) rfl (ma_cons (me_name 11) ma_nil))))) (ma_cons me_str ma_nil))) ma_nil))))) (mss_cons (ms_set (i := 5) hN (me_own (mf_lst ma_nil))) (mss_cons (ms_for poF rfl (mi_seq (me_name 2)) (mg_tup rfl (mgs_cons (mg_name 6 hN) (mgs_cons (mg_name 7 hN) mgs_nil))) (mss_kill [6, 7, 8, 10, 12] (mss_cons (ms_setLc (own' := false) (own := [("some", 10)]) rfl hN (mi_seq (me_tup (ma_cons (me_name 6) (ma_cons (me_name 7) ma_nil)))) (blkOk_by rfl) (by decide) (fun _ _ _ _ _ => (mg_name 10 hN)) (fun _ _ _ _ _ => mts_nil) (fun _ _ _ _ _ => (me_call ((f__law_put_by Y).mono (lv' := 1) (by decide)) call_p hr rfl tk0 (ma_cons (me_frz (mf_lc (own := [("place", 12)]) rfl hN (mi_seq (me_name 10)) (blkOk_by rfl) (by decide) (fun _ _ _ _ _ => (mg_name 12 hN)) (fun _ _ _ _ _ => mts_nil) (fun _ _ _ _ _ => (me_callT cm_str2 rfl (Y.free 45) rfl (ma_cons (me_name 12) ma_nil))))) (ma_cons me_str ma_nil)))) rfl) (mss_one (ms_ex (me_meL mm_append PySem.F.slot_list_append PySem.F.type_list_append (me_name 5) (ma_cons (me_bin op_addD (me_bin op_addD (me_ix (me_name 8) me_int (fun _ _ => rfl)) me_str) (me_ix (me_name 8) me_int (fun _ _ => rfl))) ma_nil))))))) (mss_one (ms_ret (me_frz (mf_add (me_name 4) (me_frz (mf_lst (ma_cons (me_if (mt_cmp (op_eqR hr.u64) (me_name 5) (me_frz (mf_lst ma_nil)) (nomark _)) me_str (me_call ((f__law_put_by Y).mono (lv' := 1) (by decide)) call_br hr rfl tkF (ma_cons (me_name 5) (ma_cons me_str ma_nil)))) ma_nil)))))))))))
theorem f__law_texts {P : Program} {w : World} {K : PySem.W.Frag} {mg : Str → Option Value} {base : Heap} (Y : FX K mg) : FnM P w K mg base 2 "_law_texts" m__law_texts :=
  fnM_of Y 28 28 (d := d__law_texts) (Sc := sc__law_texts) (hx := (xtF_ok 0)) (hb := fun _ _ _ _ _ _ us hl => match us, hl with | [_, _, _], _ => rfl) (h := b__law_texts Y)
def st0__law_made : Sm := (sSet 1 (eCall (gB m__law_rooms) (eCons (eName 0) (eCons (er (.v (.int 9))) eNil))))
def st1__law_made : Sm := (sRet (eFz (eLst (eCons (eName 1) (eCons (eCall (gB m__law_things) (eCons (eName 0) (eCons (eName 1) eNil))) (eCons (eCall (gB m__law_asks) (eCons (eName 0) (eCons (eCall (lenS) (eCons (eName 1) eNil)) (eCons (eOp2 ixS (eFz (eLst (eCons (er (.v (.int 2))) (eCons (er (.v (.int 60))) eNil)))) (eCall (gB m__law_pull) (eCons (eName 0) (eCons (er (.v (.int 2))) eNil)))) eNil)))) eNil))))))
def sm__law_made : Sm := (sSeq st0__law_made st1__law_made)
def m__law_made : Mf := Md.run 1 1 2 (xtF 1) sm__law_made
theorem sc__law_made : FnScope ["cart", "rooms"] ["cart"] d__law_made.scope := ⟨rfl, rfl, rfl, by decide +kernel, rfl, by decide +kernel, by decide +kernel⟩
theorem n__law_made : (["cart", "rooms"] : List Str).Nodup := by decide +kernel
theorem b__law_made {P : Program} {w : World} {K : PySem.W.Frag} {mg : Str → Option Value} {base : Heap} (Y : FX K mg) (f : Addr) (cdv : Value) (A : Around) (outer : List Env) (s : Shared) (H : Hp) (E : XK) (hr : RoomG 3 (A.deeper (envOfC d__law_made.qual d__law_made.scope s.heap.objs.size f cdv))) :
    MSs (cxOf (L2.CX P w) P w K mg base ["cart", "rooms"] d__law_made.qual d__law_made.scope f cdv A outer s H E) (fun cls d _ H => E cls d H) 1 d__law_made.body sm__law_made :=
  have hN := n__law_made
  (mss_cons (ms_set (i := 1) hN (me_call ((f__law_rooms Y).mono (lv' := 3) (by decide)) call_b hr rfl tkF (ma_cons (me_name 0) (ma_cons me_int ma_nil)))) (mss_one (ms_ret (me_frz (mf_lst (ma_cons (me_name 1) (ma_cons (me_call ((f__law_things Y).mono (lv' := 3) (by decide)) call_b hr rfl tkF (ma_cons (me_name 0) (ma_cons (me_name 1) ma_nil))) (ma_cons (me_call ((f__law_asks Y).mono (lv' := 3) (by decide)) call_b hr rfl tkF (ma_cons (me_name 0) (ma_cons (me_callB cm_len rfl (Y.free 38) rfl (ma_cons (me_name 1) ma_nil)) (ma_cons (me_ix (me_frz (mf_lst (ma_cons me_int (ma_cons me_int ma_nil)))) (me_call ((f__law_pull Y).mono (lv' := 3) (by decide)) call_b hr rfl tkF (ma_cons (me_name 0) (ma_cons me_int ma_nil))) (fun _ _ => rfl)) ma_nil)))) ma_nil))))))))
theorem f__law_made {P : Program} {w : World} {K : PySem.W.Frag} {mg : Str → Option Value} {base : Heap} (Y : FX K mg) : FnM P w K mg base 4 "_law_made" m__law_made :=
  fnM_of Y 29 29 (d := d__law_made) (Sc := sc__law_made) (hx := (xtF_ok 1)) (hb := fun _ _ _ _ _ _ us hl => match us, hl with | [_], _ => rfl) (h := b__law_made Y)
def st0__law_shown : Sm := (sRet (eFz (eLst (eCons (eCall (gP m_show_yard) (eCons (eOp2 ixS (eName 0) (er (.v (.int 0)))) eNil)) (eCons (eCall (gP m_show_standing) (eCons (eOp2 ixS (eName 0) (er (.v (.int 1)))) eNil)) (eCons (eCall (gP m_show_day) (eCons (eOp2 ixS (eName 0) (er (.v (.int 2)))) eNil)) eNil))))))
def sm__law_shown : Sm := st0__law_shown
def m__law_shown : Mf := Md.run 0 1 1 (xtF 0) sm__law_shown
theorem sc__law_shown : FnScope ["parts"] ["parts"] d__law_shown.scope := ⟨rfl, rfl, rfl, by decide +kernel, rfl, by decide +kernel, by decide +kernel⟩
theorem n__law_shown : (["parts"] : List Str).Nodup := by decide +kernel
theorem b__law_shown {P : Program} {w : World} {K : PySem.W.Frag} {mg : Str → Option Value} {base : Heap} (Y : FX K mg) (f : Addr) (cdv : Value) (A : Around) (outer : List Env) (s : Shared) (H : Hp) (E : XK) (hr : RoomG 6 (A.deeper (envOfC d__law_shown.qual d__law_shown.scope s.heap.objs.size f cdv))) :
    MSs (cxOf (L2.CX P w) P w K mg base ["parts"] d__law_shown.qual d__law_shown.scope f cdv A outer s H E) (fun cls d _ H => E cls d H) 0 d__law_shown.body sm__law_shown :=
  have hN := n__law_shown
  (mss_one (ms_ret (me_frz (mf_lst (ma_cons (me_call ((f_show_yard Y).mono (lv' := 6) (by decide)) call_p hr rfl tkF (ma_cons (me_ix (me_name 0) me_int (fun _ _ => rfl)) ma_nil)) (ma_cons (me_call ((f_show_standing Y).mono (lv' := 6) (by decide)) call_p hr rfl tkF (ma_cons (me_ix (me_name 0) me_int (fun _ _ => rfl)) ma_nil)) (ma_cons (me_call ((f_show_day Y).mono (lv' := 6) (by decide)) call_p hr rfl tkF (ma_cons (me_ix (me_name 0) me_int (fun _ _ => rfl)) ma_nil)) ma_nil)))))))
theorem f__law_shown {P : Program} {w : World} {K : PySem.W.Frag} {mg : Str → Option Value} {base : Heap} (Y : FX K mg) : FnM P w K mg base 7 "_law_shown" m__law_shown :=
  fnM_of Y 30 30 (d := d__law_shown) (Sc := sc__law_shown) (hx := (xtF_ok 0)) (hb := fun _ _ _ _ _ _ us hl => match us, hl with | [_], _ => rfl) (h := b__law_shown Y)
def st0_law : Sm := (sSet 2 (eCall (gO m__law_cart) (eCons (eName 0) (eCons (eName 1) eNil))))
def st1_law : Sm := (sSet 3 (eCall (gB m__law_made) (eCons (eName 2) eNil)))
def st2_law : Sm := (sSet 4 (eCall (repS) (eCons (eName 3) eNil)))
def st3_law : Sm := (sSet 5 (eCall (gP m__law_texts) (eCons (eOp2 ixS (eName 3) (er (.v (.int 0)))) (eCons (eOp2 ixS (eName 3) (er (.v (.int 1)))) (eCons (eOp2 ixS (eName 3) (er (.v (.int 2)))) eNil)))))
def st4_law : Sm := (sRet (er (.v (.bl false))))
def st5_law : Sm := (sIf (eOrT (eTest (eOp2 (onR neR) (eCall (gP m__law_shown) (eCons (eName 3) eNil)) (eName 5))) (eTest (eOp2 (onR neR) (eCall (repS) (eCons (eName 3) eNil)) (eName 4)))) st4_law sNx)
def st6_law : Sm := (sSet 8 (eLstO (eCons (eCall (gP m_read_yard) (eCons (eOp2 ixS (eName 5) (er (.v (.int 0)))) eNil)) (eCons (eCallKn [0] 0 1 (gP m_read_standing) eNil (eCons (eOp2 ixS (eName 5) (er (.v (.int 1)))) eNil)) (eCons (eCall (gO m_read_day) (eCons (eOp2 ixS (eName 5) (er (.v (.int 2)))) eNil)) eNil)))))
def st7_law : Sm := (sRet (er (.v (.bl false))))
def st8_law : Sm := (sIf (eTest (eOp2 (onR neR) (eCall (repS) (eCons (eName 8) eNil)) (eName 4))) st7_law sNx)
def st9_law : Sm := (sEx (eMeL (onLs appF) (eOp2 ixS (eName 8) (er (.v (.int 2)))) (eCons (er (.v .non)) eNil)))
def bo0_law : Sm := (sKill [6, 8] (sSeq st6_law (sSeq st8_law st9_law)))
def fo0_law : Sm := sFor (eItL rng1 (eCons (er (.v (.int 2))) eNil)) (gN 6) bo0_law
def st10_law : Sm := (sRet (er (.v (.bl false))))
def st11_law : Sm := (sIf (eTest (eOp2 (onR neR) (eFz (eLst (eCons (eCallKn [0] 0 1 (gP m_show_yard) eNil (eCons (eOp2 ixS (eName 3) (er (.v (.int 0)))) eNil)) (eCons (eCallKn [0] 0 1 (gP m_show_standing) eNil (eCons (eOp2 ixS (eName 3) (er (.v (.int 1)))) eNil)) (eCons (eCallKn [0] 0 1 (gP m_show_day) eNil (eCons (eOp2 ixS (eName 3) (er (.v (.int 2)))) eNil)) eNil))))) (eName 5))) st10_law sNx)
def st12_law : Sm := (sRet (er (.v (.bl false))))
def st13_law : Sm := (sIf (eOrT (eTest (eOp2 (onR neR) (eCallKn [0] 0 1 (gP m_read_yard) eNil (eCons (eOp2 ixS (eName 5) (er (.v (.int 0)))) eNil)) (eOp2 ixS (eName 3) (er (.v (.int 0)))))) (eTest (eOp2 (onR neR) (eCallKn [0] 0 1 (gO m_read_day) eNil (eCons (eOp2 ixS (eName 5) (er (.v (.int 2)))) eNil)) (eOp2 ixS (eName 3) (er (.v (.int 2))))))) st12_law sNx)
def st14_law : Sm := (sSet 7 (eCall (gB m__law_made) (eCons (eName 2) eNil)))
def lc0_law : Em (List D) := eLc (eItL rng1 (eCons (er (.v (.int 3))) eNil)) [9] (gN 9) eYes (eOp2 (onR eqR) (eOp2 ixS (eName 3) (eName 9)) (eOp2 ixS (eName 7) (eName 9)))
def lc1_law : Em (List D) := eLc (eItL rng1 (eCons (er (.v (.int 3))) eNil)) [9] (gN 9) eYes (eOp2 (onR eqR) (eOp2 ixS (eName 5) (eName 9)) (eOp2 ixS (eCall (gP m__law_shown) (eCons (eName 7) eNil)) (eName 9)))
def st15_law : Sm := (sRet (er (.v (.bl false))))
def st16_law : Sm := (sIf (eTest (eOp2 (onR neR) (eFz lc0_law) (eFz lc1_law))) st15_law sNx)
def bo1_law : Sm := (sKill [1, 2, 3, 4, 5, 6, 7, 8, 9] (sSeq st0_law (sSeq st1_law (sSeq st2_law (sSeq st3_law (sSeq st5_law (sSeq fo0_law (sSeq st11_law (sSeq st13_law (sSeq st14_law st16_law))))))))))
def fo1_law : Sm := sFor (eItL rng1 (eCons (eCall (onL maxL) (eCons (er (.v (.int 1))) (eCons (eCall (onL minL) (eCons (er (.v (.int 5))) (eCons (eCall (lenS) (eCons (eName 0) eNil)) eNil))) eNil))) eNil)) (gN 1) bo1_law
def st17_law : Sm := (sRet (er (.v (.bl true))))
def sm_law : Sm := (sSeq fo1_law st17_law)
def m_law : Mf := Md.run 0 1 10 (xtF 0) sm_law
theorem sc_law : FnScope ["script", "k", "cart", "parts", "held", "due", "turn", "mates", "told", "s"] ["script"] d_law.scope := ⟨rfl, rfl, rfl, by decide +kernel, rfl, by decide +kernel, by decide +kernel⟩
theorem n_law : (["script", "k", "cart", "parts", "held", "due", "turn", "mates", "told", "s"] : List Str).Nodup := by decide +kernel
theorem b_law {P : Program} {w : World} {K : PySem.W.Frag} {mg : Str → Option Value} {base : Heap} (Y : FX K mg) (f : Addr) (cdv : Value) (A : Around) (outer : List Env) (s : Shared) (H : Hp) (E : XK) (hr : RoomG 7 (A.deeper (envOfC d_law.qual d_law.scope s.heap.objs.size f cdv))) :
    MSs (cxOf (L2.CX P w) P w K mg base ["script", "k", "cart", "parts", "held", "due", "turn", "mates", "told", "s"] d_law.qual d_law.scope f cdv A outer s H E) (fun cls d _ H => E cls d H) 0 d_law.body sm_law :=
  have hN := n_law
  (mss_cons (ms_for poF rfl (mi_range1 rfl (Y.free 42) (ma_cons (me_callB cm_max rfl (Y.free 40) rfl (ma_cons me_int (ma_cons (me_callB cm_min rfl (Y.free 41) rfl (ma_cons me_int (ma_cons (me_callB cm_len rfl (Y.free 38) rfl (ma_cons (me_name 0) ma_nil)) ma_nil))) ma_nil))) ma_nil)) (mg_name 1 hN) (mss_kill [1, 2, 3, 4, 5, 6, 7, 8, 9] (mss_cons (ms_set (i := 2) hN (me_call ((f__law_cart Y).mono (lv' := 7) (by decide)) call_o hr rfl tkF (ma_cons (me_name 0) (ma_cons (me_name 1) ma_nil)))) (mss_cons (ms_set (i := 3) hN (me_call ((f__law_made Y).mono (lv' := 7) (by decide)) call_b hr rfl tkF (ma_cons (me_name 2) ma_nil))) (mss_cons (ms_set (i := 4) hN (me_callB (cm_repr hr.g hr.u64) rfl (Y.free 43) rfl (ma_cons (me_name 3) ma_nil))) (mss_cons (ms_set (i := 5) hN (me_call ((f__law_texts Y).mono (lv' := 7) (by decide)) call_p hr rfl tkF (ma_cons (me_ix (me_name 3) me_int (fun _ _ => rfl)) (ma_cons (me_ix (me_name 3) me_int (fun _ _ => rfl)) (ma_cons (me_ix (me_name 3) me_int (fun _ _ => rfl)) ma_nil))))) (mss_cons (ms_if (mw_pt (mw_or (mt_cmp (op_neR hr.u64) (me_call ((f__law_shown Y).mono (lv' := 7) (by decide)) call_p hr rfl tkF (ma_cons (me_name 3) ma_nil)) (me_name 5) (nomark _)) (mw_or1 (mt_cmp (op_neR hr.u64) (me_callB (cm_repr hr.g hr.u64) rfl (Y.free 43) rfl (ma_cons (me_name 3) ma_nil)) (me_name 4) (nomark _))))) (mss_one (ms_ret me_bl)) mss_nil) (mss_cons (ms_for poF rfl (mi_range1 rfl (Y.free 42) (ma_cons me_int ma_nil)) (mg_name 6 hN) (mss_kill [6, 8] (mss_cons (ms_set (i := 8) hN (me_lstO (ma_cons (me_call ((f_read_yard Y).mono (lv' := 7) (by decide)) call_p hr rfl tkF (ma_cons (me_ix (me_name 5) me_int (fun _ _ => rfl)) ma_nil)) (ma_cons (me_callK0 ((fk0_read_standing Y).mono (lv' := 7) (by decide)) call_p hr rfl tkF (mk_cons (me_ix (me_name 5) me_int (fun _ _ => rfl)) mk_nil)) (ma_cons (me_call ((f_read_day Y).mono (lv' := 7) (by decide)) call_o hr rfl tkF (ma_cons (me_ix (me_name 5) me_int (fun _ _ => rfl)) ma_nil)) ma_nil))))) (mss_cons (ms_if (mt_cmp (op_neR hr.u64) (me_callB (cm_repr hr.g hr.u64) rfl (Y.free 43) rfl (ma_cons (me_name 8) ma_nil)) (me_name 4) (nomark _)) (mss_one (ms_ret me_bl)) mss_nil) (mss_one (ms_ex (me_meL mm_append PySem.F.slot_list_append PySem.F.type_list_append (me_ix (me_name 8) me_int (fun _ _ => rfl)) (ma_cons me_non ma_nil)))))))) (mss_cons (ms_if (mt_cmp (op_neR hr.u64) (me_frz (mf_lst (ma_cons (me_callK0 ((fk3_show_yard Y).mono (lv' := 7) (by decide)) call_p hr rfl tkF (mk_cons (me_ix (me_name 3) me_int (fun _ _ => rfl)) mk_nil)) (ma_cons (me_callK0 ((fk2_show_standing Y).mono (lv' := 7) (by decide)) call_p hr rfl tkF (mk_cons (me_ix (me_name 3) me_int (fun _ _ => rfl)) mk_nil)) (ma_cons (me_callK0 ((fk1_show_day Y).mono (lv' := 7) (by decide)) call_p hr rfl tkF (mk_cons (me_ix (me_name 3) me_int (fun _ _ => rfl)) mk_nil)) ma_nil))))) (me_name 5) (nomark _)) (mss_one (ms_ret me_bl)) mss_nil) (mss_cons (ms_if (mw_pt (mw_or (mt_cmp (op_neR hr.u64) (me_callK0 ((fk4_read_yard Y).mono (lv' := 7) (by decide)) call_p hr rfl tkF (mk_cons (me_ix (me_name 5) me_int (fun _ _ => rfl)) mk_nil)) (me_ix (me_name 3) me_int (fun _ _ => rfl)) (nomark _)) (mw_or1 (mt_cmp (op_neR hr.u64) (me_callK0 ((fk5_read_day Y).mono (lv' := 7) (by decide)) call_o hr rfl tkF (mk_cons (me_ix (me_name 5) me_int (fun _ _ => rfl)) mk_nil)) (me_ix (me_name 3) me_int (fun _ _ => rfl)) (nomark _))))) (mss_one (ms_ret me_bl)) mss_nil) (mss_cons (ms_set (i := 7) hN (me_call ((f__law_made Y).mono (lv' := 7) (by decide)) call_b hr rfl tkF (ma_cons (me_name 2) ma_nil))) (mss_one (ms_if (mt_cmp (op_neR hr.u64) (me_frz (mf_lc (own := [("s", 9)]) rfl hN (mi_range1 rfl (Y.free 42) (ma_cons me_int ma_nil)) (blkOk_by rfl) (by decide) (fun _ _ _ _ _ => (mg_name 9 hN)) (fun _ _ _ _ _ => mts_nil) (fun _ _ _ _ _ => (me_cmp (op_eqR hr.u64) (me_ix (me_name 3) (me_name 9) (fun _ _ => rfl)) (me_ix (me_name 7) (me_name 9) (fun _ _ => rfl)) (nomark _))))) (me_frz (mf_lc (own := [("s", 9)]) rfl hN (mi_range1 rfl (Y.free 42) (ma_cons me_int ma_nil)) (blkOk_by rfl) (by decide) (fun _ _ _ _ _ => (mg_name 9 hN)) (fun _ _ _ _ _ => mts_nil) (fun _ _ _ _ _ => (me_cmp (op_eqR hr.u64) (me_ix (me_name 5) (me_name 9) (fun _ _ => rfl)) (me_ix (me_call ((f__law_shown Y).mono (lv' := 7) (by decide)) call_p hr rfl tk0 (ma_cons (me_name 7) ma_nil)) (me_name 9) (fun _ _ => rfl)) (nomark _))))) (nomark _)) (mss_one (ms_ret me_bl)) mss_nil))))))))))))) (mss_one (ms_ret me_bl)))
theorem f_law {P : Program} {w : World} {K : PySem.W.Frag} {mg : Str → Option Value} {base : Heap} (Y : FX K mg) : FnM P w K mg base 8 "law" m_law :=
  fnM_of Y 31 31 (d := d_law) (Sc := sc_law) (hx := (xtF_ok 0)) (hb := fun _ _ _ _ _ _ us hl => match us, hl with | [_], _ => rfl) (h := b_law Y)
end K45
end
section
namespace K45
open PySem PySem.Spec PyProof.Rows L2 Md
/-! ## comprehensions of pure elements -/
theorem blsD_all {α : Type} (xs : List α) (b : α → Bool) : allD (xs.map fun x => D.bl (b x)) = some (.bl (xs.all b)) := by
  unfold allD
  rw [show (xs.map fun x => D.bl (b x)) = (xs.map b).map D.bl by rw [List.map_map]; rfl, blsD_map]
  simp [List.all_map]
/-! ## numbers, words -/
abbrev big : Nat := 10 ^ 12
def nS (n : Nat) : Str := Str.ofString (toString ((n : Nat) : Int))
theorem nS_str {n : Nat} (h : n < big) : strL2 [.int (n : Int)] = some (.str (nS n)) := by
  have : n.log2 < 1920 := by
    have h2 : n < 2 ^ 1920 := Nat.lt_of_lt_of_le h (by decide +kernel)
    by_cases h0 : n = 0
    · subst h0; decide
    · exact (Nat.log2_lt h0).mpr h2
  simp [strL2, this, nS]
theorem tl_nS (n : Nat) : TL.tl (nS n) = TL.numL n := TL.tl_num n
theorem len_nS {n : Nat} (h : n < big) : (nS n).length ≤ 12 := by
  rw [TL.len_tl, tl_nS]
  exact TL.numL_len (by decide) h
theorem int_nS {n : Nat} (h : n < big) : intL2 [.str (nS n)] = some (.int n) := by
  have h1 : (nS n).length ≤ 640 := Nat.le_trans (len_nS h) (by decide)
  have h2 : PySem.intText? (nS n) = some (n : Int) := TL.int_num (Nat.le_trans (TL.numL_len (k := 12) (by decide) h) (by decide))
  simp [intL2, h1, h2]
/-- rooms -/
def rD : Option Nat → D
  | none => .non
  | some n => .int n
def rS : Option Nat → Str
  | none => "-"
  | some n => nS n
def nD (n : Nat) : D := .int (n : Int)
def eL (ns : List Nat) : D := .tup (ns.map nD)
def eR (rs : List (Option Nat)) : D := .tup (rs.map rD)
def eA (a : List Nat × List Nat) : D := .tup [eL a.1, eL a.2]
def eDy (as : List (List Nat × List Nat)) : D := .lst (as.map eA)
def okN (ns : List Nat) : Prop := ns.length ≤ 9 ∧ ∀ n ∈ ns, n < big
def okR (rs : List (Option Nat)) : Prop := 1 ≤ rs.length ∧ rs.length ≤ 9 ∧ ∀ n, some n ∈ rs → n < big
def okP (ns : List Nat) : Prop := ns.length ≤ 9 ∧ ns.Nodup ∧ ∀ n ∈ ns, n < 9
def okD (as : List (List Nat × List Nat)) : Prop := as.length ≤ 60 ∧ ∀ a ∈ as, okP a.1 ∧ okP a.2
theorem okP.okN {ns : List Nat} (h : okP ns) : okN ns := ⟨h.1, fun n hn => Nat.lt_of_lt_of_le (h.2.2 n hn) (by decide)⟩
/-! ## looks -/
theorem p_is_amount (n : Int) : m_is_amount [.v (.int n)] [] = .ok (.v (.bl (decide (0 ≤ n)))) [] := rfl
theorem p_amt (n : Nat) : m_is_amount [.v (.int (n : Int))] [] = .ok (.v (.bl true)) [] := by
  rw [p_is_amount, decide_eq_true (Int.natCast_nonneg n)]
theorem p_is_place (ys : List D) (n : Nat) (h : n < ys.length) : m_is_place [.v (.tup ys), .v (.int n)] [] = .ok (.v (.bl true)) [] := by
  have h2 : (n : Int) < (ys.length : Int) := by omega
  simp [m_is_place, sm_is_place, st0_is_place, sRet, sRetN, sB, sSeq, sNx, sEx, sSet, sIf, sAsg, sKill, killR, eb, er, eX, eName, eCons, eNil, eCall, eCallKn, eOp2, eOp1, eAnd, eOr, eNot, eIf, eTest, eTruth, eAndT, eOrT, eNotT, eTup, eLst, eFz, eOwn, eLstO, frzS, onD, onD1, onR, eD, padR, gN, gT, gsC, gsN, xtF, flatM, Md.run, gP, allV, eYes, p_amt, ltD, cmpD, lenS, seqS, h2, h]
theorem all_true {α : Type} (xs : List α) : allD (xs.map fun _ => D.bl true) = some (.bl true) := by
  rw [blsD_all]
  simp
theorem c_is_yard (rs : List (Option Nat)) (hl : rs.length ≤ 9) : lc0_is_yard [some (.v (eR rs)), none] [] = .ok (rs.map fun _ => .bl true) [] :=
  eLc_map rs rfl (by omega) fun r _ => by
    cases r with
    | none => exact ⟨_, rfl, rfl, rfl⟩
    | some n => exact ⟨_, rfl, rfl, by simp [sRet, sRetN, sB, sSeq, sNx, sEx, sSet, sIf, sAsg, sKill, killR, eb, er, eX, eName, eCons, eNil, eCall, eCallKn, eOp2, eOp1, eAnd, eOr, eNot, eIf, eTest, eTruth, eAndT, eOrT, eNotT, eTup, eLst, eFz, eOwn, eLstO, frzS, onD, onD1, onR, eD, padR, gN, gT, gsC, gsN, xtF, flatM, Md.run, gP, allV, eYes, isN, isNonD, rD, p_amt]⟩
theorem p_is_yard {rs : List (Option Nat)} (h : okR rs) : m_is_yard [.v (eR rs)] [] = .ok (.v (.bl true)) [] := by
  obtain ⟨h1, h2, h3⟩ := h
  have e := c_is_yard rs h2
  have g1 : (1 : Int) ≤ (rs.length : Int) := by omega
  have g2 : (rs.length : Int) ≤ 9 := by omega
  simp only [eR] at e ⊢
  simp [m_is_yard, sm_is_yard, st0_is_yard, st1_is_yard, st2_is_yard, sRet, sRetN, sB, sSeq, sNx, sEx, sSet, sIf, sAsg, sKill, killR, eb, er, eX, eName, eCons, eNil, eCall, eCallKn, eOp2, eOp1, eAnd, eOr, eNot, eIf, eTest, eTruth, eAndT, eOrT, eNotT, eTup, eLst, eFz, eOwn, eLstO, frzS, onD, onD1, onR, eD, padR, gN, gT, gsC, gsN, xtF, flatM, Md.run, gP, allV, eYes, e, eIsi, isTy, eChain, leD, cmpD, lenS, seqS, g1, g2, oneL, lstS, all_true]
theorem p_need_yard {rs : List (Option Nat)} (h : okR rs) : m_need_yard [.v (eR rs)] [] = .ok (.v .non) [] := by
  simp [m_need_yard, sm_need_yard, st0_need_yard, sRet, sRetN, sB, sSeq, sNx, sEx, sSet, sIf, sAsg, sKill, killR, eb, er, eX, eName, eCons, eNil, eCall, eCallKn, eOp2, eOp1, eAnd, eOr, eNot, eIf, eTest, eTruth, eAndT, eOrT, eNotT, eTup, eLst, eFz, eOwn, eLstO, frzS, onD, onD1, onR, eD, padR, gN, gT, gsC, gsN, xtF, flatM, Md.run, gP, allV, eYes, p_is_yard h]
def wide9 : D := .tup [.non, .non, .non, .non, .non, .non, .non, .non, .non]
theorem wide9_eq : wide9 = eR (List.replicate 9 none) := rfl
theorem nDist_nodup : ∀ {ns : List Int}, ns.Nodup → nDist ns = ns.length
  | [], _ => rfl
  | n :: ns, h => by
    rw [nDist, if_neg (List.nodup_cons.mp h).1, nDist_nodup (List.nodup_cons.mp h).2]
    rfl
def nI (n : Nat) : Int := n
theorem intsD_nat (ns : List Nat) : intsD (ns.map nD) = some (ns.map nI) := by
  rw [show ns.map nD = (ns.map nI).map D.int by rw [List.map_map]; rfl, intsD_map]
theorem p_are_places {ns : List Nat} (h : okP ns) : m_are_places [.v wide9, .v (eL ns)] [] = .ok (.v (.bl true)) [] := by
  obtain ⟨h1, h2, h3⟩ := h
  have e : lc0_are_places [some (.v wide9), some (.v (eL ns)), none] [] = .ok (ns.map fun _ => .bl true) [] :=
    eLc_map (enc := nD) ns rfl (by omega) fun n hn => ⟨_, rfl, rfl, by
      have := p_is_place [.non, .non, .non, .non, .non, .non, .non, .non, .non] n (h3 n hn)
      simp [sRet, sRetN, sB, sSeq, sNx, sEx, sSet, sIf, sAsg, sKill, killR, eb, er, eX, eName, eCons, eNil, eCall, eCallKn, eOp2, eOp1, eAnd, eOr, eNot, eIf, eTest, eTruth, eAndT, eOrT, eNotT, eTup, eLst, eFz, eOwn, eLstO, frzS, onD, onD1, onR, eD, padR, gN, gT, gsC, gsN, xtF, flatM, Md.run, gP, allV, eYes, nD, wide9, this]⟩
  have nd : (ns.map nI).Nodup := by
    refine List.Pairwise.map _ (fun a b hab => ?_) h2
    unfold nI
    omega
  have l : nDist (ns.map nI) = ns.length := by rw [nDist_nodup nd, List.length_map]
  simp only [eL] at e ⊢
  simp [m_are_places, sm_are_places, st0_are_places, st1_are_places, st2_are_places, sRet, sRetN, sB, sSeq, sNx, sEx, sSet, sIf, sAsg, sKill, killR, eb, er, eX, eName, eCons, eNil, eCall, eCallKn, eOp2, eOp1, eAnd, eOr, eNot, eIf, eTest, eTruth, eAndT, eOrT, eNotT, eTup, eLst, eFz, eOwn, eLstO, frzS, onD, onD1, onR, eD, padR, gN, gT, gsC, gsN, xtF, flatM, Md.run, gP, allV, eYes, e, eIsi, isTy, lenS, seqS, oneL, lstS, all_true, eLens, intsD_nat, l, show ns.length ≤ 1000 by omega, rdS, eqR, gd, eqvD]
theorem p_is_ask {a : List Nat × List Nat} (h : okP a.1 ∧ okP a.2) : m_is_ask [.v wide9, .v (eA a)] [] = .ok (.v (.bl true)) [] := by
  have e : lc0_is_ask [some (.v wide9), some (.v (eA a)), none] [] = .ok ([a.1, a.2].map fun _ => .bl true) [] :=
    eLc_map [a.1, a.2] rfl (by simp) fun n hn => ⟨_, rfl, rfl, by
      have hk : okP n := by
        rcases List.mem_cons.mp hn with e | e
        · rw [e]; exact h.1
        · rw [List.mem_singleton.mp e]; exact h.2
      simp [sRet, sRetN, sB, sSeq, sNx, sEx, sSet, sIf, sAsg, sKill, killR, eb, er, eX, eName, eCons, eNil, eCall, eCallKn, eOp2, eOp1, eAnd, eOr, eNot, eIf, eTest, eTruth, eAndT, eOrT, eNotT, eTup, eLst, eFz, eOwn, eLstO, frzS, onD, onD1, onR, eD, padR, gN, gT, gsC, gsN, xtF, flatM, Md.run, gP, allV, eYes, p_are_places hk]⟩
  simp only [eA] at e ⊢
  simp [m_is_ask, sm_is_ask, st0_is_ask, sRet, sRetN, sB, sSeq, sNx, sEx, sSet, sIf, sAsg, sKill, killR, eb, er, eX, eName, eCons, eNil, eCall, eCallKn, eOp2, eOp1, eAnd, eOr, eNot, eIf, eTest, eTruth, eAndT, eOrT, eNotT, eTup, eLst, eFz, eOwn, eLstO, frzS, onD, onD1, onR, eD, padR, gN, gT, gsC, gsN, xtF, flatM, Md.run, gP, allV, eYes, e, eIsi, isTy, lenS, seqS, oneL, lstS, rdS, eqR, gd, eqvD, allD, blsD]
theorem p_is_day {as : List (List Nat × List Nat)} (h : okD as) : m_is_day [.v wide9, .v (eDy as)] [] = .ok (.v (.bl true)) [] := by
  have e : lc0_is_day [some (.v wide9), some (.v (eDy as)), none] [] = .ok (as.map fun _ => .bl true) [] :=
    eLc_map as rfl (Nat.le_trans h.1 (by decide)) fun a ha => ⟨_, rfl, rfl, by simp [sRet, sRetN, sB, sSeq, sNx, sEx, sSet, sIf, sAsg, sKill, killR, eb, er, eX, eName, eCons, eNil, eCall, eCallKn, eOp2, eOp1, eAnd, eOr, eNot, eIf, eTest, eTruth, eAndT, eOrT, eNotT, eTup, eLst, eFz, eOwn, eLstO, frzS, onD, onD1, onR, eD, padR, gN, gT, gsC, gsN, xtF, flatM, Md.run, gP, allV, eYes, p_is_ask (h.2 a ha)]⟩
  have y : m_need_yard [.v wide9] [] = .ok (.v .non) [] := p_need_yard (rs := List.replicate 9 none) ⟨by decide, by decide, fun n hn => by simp at hn⟩
  simp only [eDy] at e ⊢
  simp [m_is_day, sm_is_day, st0_is_day, st1_is_day, sRet, sRetN, sB, sSeq, sNx, sEx, sSet, sIf, sAsg, sKill, killR, eb, er, eX, eName, eCons, eNil, eCall, eCallKn, eOp2, eOp1, eAnd, eOr, eNot, eIf, eTest, eTruth, eAndT, eOrT, eNotT, eTup, eLst, eFz, eOwn, eLstO, frzS, onD, onD1, onR, eD, padR, gN, gT, gsC, gsN, xtF, flatM, Md.run, gP, allV, eYes, e, eIsi, isTy, oneL, lstS, all_true, y]
theorem p_are_amounts {ns : List Nat} (h : okN ns) (h1 : 1 ≤ ns.length) : m_are_amounts [.v (eL ns)] [] = .ok (.v (.bl true)) [] := by
  have e : lc0_are_amounts [some (.v (eL ns)), none] [] = .ok (ns.map fun _ => .bl true) [] :=
    eLc_map (enc := nD) ns rfl (Nat.le_trans h.1 (by decide)) fun n _ => ⟨_, rfl, rfl, by simp [sRet, sRetN, sB, sSeq, sNx, sEx, sSet, sIf, sAsg, sKill, killR, eb, er, eX, eName, eCons, eNil, eCall, eCallKn, eOp2, eOp1, eAnd, eOr, eNot, eIf, eTest, eTruth, eAndT, eOrT, eNotT, eTup, eLst, eFz, eOwn, eLstO, frzS, onD, onD1, onR, eD, padR, gN, gT, gsC, gsN, xtF, flatM, Md.run, gP, allV, eYes, nD, p_amt]⟩
  have g1 : (1 : Int) ≤ (ns.length : Int) := by omega
  have g2 : (ns.length : Int) ≤ 9 := by have := h.1; omega
  simp only [eL] at e ⊢
  simp [m_are_amounts, sm_are_amounts, st0_are_amounts, sRet, sRetN, sB, sSeq, sNx, sEx, sSet, sIf, sAsg, sKill, killR, eb, er, eX, eName, eCons, eNil, eCall, eCallKn, eOp2, eOp1, eAnd, eOr, eNot, eIf, eTest, eTruth, eAndT, eOrT, eNotT, eTup, eLst, eFz, eOwn, eLstO, frzS, onD, onD1, onR, eD, padR, gN, gT, gsC, gsN, xtF, flatM, Md.run, gP, allV, eYes, e, eIsi, isTy, eChain, leD, cmpD, lenS, seqS, g1, g2, oneL, lstS, all_true]
/-! ## writings -/
def shL (ns : List Nat) : Str := Txt.join " " (ns.map nS)
def shR (rs : List (Option Nat)) : Str := Txt.join " " (rs.map rS)
def shA (a : List Nat × List Nat) : Str := shL a.1 ++ ">" ++ shL a.2
def shD (as : List (List Nat × List Nat)) : Str := if as = [] then "." else Txt.join ";" (as.map shA)
theorem sum_le {α : Type} {f : α → Nat} {k : Nat} : ∀ {xs : List α}, (∀ x ∈ xs, f x ≤ k) → (xs.map f).sum ≤ xs.length * k
  | [], _ => by simp
  | x :: xs, h => by
    have ih := sum_le (f := f) fun y hy => h y (List.mem_cons_of_mem _ hy)
    have h0 := h x List.mem_cons_self
    rw [List.map_cons, List.sum_cons, List.length_cons, Nat.succ_mul]
    omega
theorem joinG_of {M : Mh} (s : Str) (ys : List Str) {n k : Nat} (hl : ys.length ≤ n) (hk : ∀ y ∈ ys, y.length ≤ k) (h : n * k + n * s.length ≤ 16777216) : joinG s (.v (.lst (ys.map .str))) M = .ok (.v (.str (Txt.join s ys))) M := by
  have h1 := sum_le (f := fun y : Str => y.length) hk
  have h2 : ys.length * k ≤ n * k := Nat.mul_le_mul_right _ hl
  have h3 : ys.length * s.length ≤ n * s.length := Nat.mul_le_mul_right _ hl
  simp only [joinG, seqS, lstS, strsD_map]
  rw [if_pos (by omega)]
theorem p_joined {ns : List Nat} (h : okN ns) : m_joined [.v (eL ns)] [] = .ok (.v (.str (shL ns))) [] := by
  have e : lc0_joined [some (.v (eL ns)), none] [] = .ok (ns.map fun n => .str (nS n)) [] :=
    eLc_map (enc := nD) ns rfl (Nat.le_trans h.1 (by decide)) fun n hn => ⟨_, rfl, rfl, by simp [sRet, sRetN, sB, sSeq, sNx, sEx, sSet, sIf, sAsg, sKill, killR, eb, er, eX, eName, eCons, eNil, eCall, eCallKn, eOp2, eOp1, eAnd, eOr, eNot, eIf, eTest, eTruth, eAndT, eOrT, eNotT, eTup, eLst, eFz, eOwn, eLstO, frzS, onD, onD1, onR, eD, padR, gN, gT, gsC, gsN, xtF, flatM, Md.run, gP, allV, eYes, nD, onL, nS_str (h.2 n hn)]⟩
  have j := joinG_of (M := []) " " (ns.map nS) (n := 9) (k := 12) (by rw [List.length_map]; exact h.1) (fun y hy => by
    obtain ⟨n, hn, rfl⟩ := List.mem_map.mp hy
    exact len_nS (h.2 n hn)) (by decide)
  rw [List.map_map] at j
  have j2 : joinG " " (.v (.lst (ns.map fun n => .str (nS n)))) [] = .ok (.v (.str (shL ns))) [] := j
  simp [m_joined, sm_joined, st0_joined, sRet, sRetN, sB, sSeq, sNx, sEx, sSet, sIf, sAsg, sKill, killR, eb, er, eX, eName, eCons, eNil, eCall, eCallKn, eOp2, eOp1, eAnd, eOr, eNot, eIf, eTest, eTruth, eAndT, eOrT, eNotT, eTup, eLst, eFz, eOwn, eLstO, frzS, onD, onD1, onR, eD, padR, gN, gT, gsC, gsN, xtF, flatM, Md.run, gP, allV, eYes, e, eM1, j2]
theorem p_show_yard {rs : List (Option Nat)} (h : okR rs) : m_show_yard [.v (eR rs)] [] = .ok (.v (.str (shR rs))) [] := by
  have e : lc0_show_yard [some (.v (eR rs)), none] [] = .ok (rs.map fun n => .str (rS n)) [] :=
    eLc_map rs rfl (Nat.le_trans h.2.1 (by decide)) fun r hr => by
      cases r with
      | none => exact ⟨_, rfl, rfl, rfl⟩
      | some n => exact ⟨_, rfl, rfl, by simp [sRet, sRetN, sB, sSeq, sNx, sEx, sSet, sIf, sAsg, sKill, killR, eb, er, eX, eName, eCons, eNil, eCall, eCallKn, eOp2, eOp1, eAnd, eOr, eNot, eIf, eTest, eTruth, eAndT, eOrT, eNotT, eTup, eLst, eFz, eOwn, eLstO, frzS, onD, onD1, onR, eD, padR, gN, gT, gsC, gsN, xtF, flatM, Md.run, gP, allV, eYes, isN, isNonD, rD, rS, onL, nS_str (h.2.2 n hr)]⟩
  have j := joinG_of (M := []) " " (rs.map rS) (n := 9) (k := 12) (by rw [List.length_map]; exact h.2.1) (fun y hy => by
    obtain ⟨n, hn, rfl⟩ := List.mem_map.mp hy
    cases n with
    | none => decide
    | some n => exact len_nS (h.2.2 n hn)) (by decide)
  rw [List.map_map] at j
  have j2 : joinG " " (.v (.lst (rs.map fun n => .str (rS n)))) [] = .ok (.v (.str (shR rs))) [] := j
  simp [m_show_yard, sm_show_yard, st0_show_yard, st1_show_yard, sRet, sRetN, sB, sSeq, sNx, sEx, sSet, sIf, sAsg, sKill, killR, eb, er, eX, eName, eCons, eNil, eCall, eCallKn, eOp2, eOp1, eAnd, eOr, eNot, eIf, eTest, eTruth, eAndT, eOrT, eNotT, eTup, eLst, eFz, eOwn, eLstO, frzS, onD, onD1, onR, eD, padR, gN, gT, gsC, gsN, xtF, flatM, Md.run, gP, allV, eYes, e, eM1, j2, p_need_yard h]
theorem p_show_standing {ns : List Nat} (h : okN ns) (h1 : 1 ≤ ns.length) : m_show_standing [.v (eL ns)] [] = .ok (.v (.str (shL ns))) [] := by
  simp [m_show_standing, sm_show_standing, st0_show_standing, st1_show_standing, sRet, sRetN, sB, sSeq, sNx, sEx, sSet, sIf, sAsg, sKill, killR, eb, er, eX, eName, eCons, eNil, eCall, eCallKn, eOp2, eOp1, eAnd, eOr, eNot, eIf, eTest, eTruth, eAndT, eOrT, eNotT, eTup, eLst, eFz, eOwn, eLstO, frzS, onD, onD1, onR, eD, padR, gN, gT, gsC, gsN, xtF, flatM, Md.run, gP, allV, eYes, p_are_amounts h h1, p_joined h]
theorem len_join (s : Str) : ∀ (ys : List Str) (k : Nat), (∀ y ∈ ys, y.length ≤ k) → (Txt.join s ys).length ≤ ys.length * (k + s.length)
  | ys, k, h => by
    rw [TL.join_eq, TL.len_tl, TL.tl_join]
    induction ys with
    | nil => simp [TL.joinL]
    | cons y ys ih =>
      have h0 := h y List.mem_cons_self
      have i := ih fun z hz => h z (List.mem_cons_of_mem _ hz)
      rw [TL.len_tl] at h0
      cases ys with
      | nil =>
        simp only [List.map_cons, List.map_nil, TL.joinL, List.length_cons, List.length_nil]
        omega
      | cons z zs =>
        simp only [List.map_cons, TL.joinL, List.length_append, List.length_cons] at i ⊢
        rw [TL.len_tl s] at i ⊢
        rw [Nat.succ_mul]
        omega
theorem len_shL {ns : List Nat} (h : okN ns) : (shL ns).length ≤ 117 := by
  have l := len_join " " (ns.map nS) 12 fun y hy => by
    obtain ⟨n, hn, rfl⟩ := List.mem_map.mp hy
    exact len_nS (h.2 n hn)
  rw [List.length_map] at l
  have h1 := h.1
  have e : (" " : Str).length = 1 := by decide
  rw [e] at l
  unfold shL
  omega
theorem len_app (a b : Str) : (a ++ b).length = a.length + b.length := by
  rw [TL.len_tl, TL.tl_append, List.length_append, ← TL.len_tl, ← TL.len_tl]
theorem len_shA {a : List Nat × List Nat} (h : okP a.1 ∧ okP a.2) : (shA a).length ≤ 235 := by
  have h1 := len_shL h.1.okN
  have h2 := len_shL h.2.okN
  have e : (">" : Str).length = 1 := by decide
  unfold shA
  rw [len_app, len_app, e]
  omega
theorem p_show_day {as : List (List Nat × List Nat)} (h : okD as) : m_show_day [.v (eDy as)] [] = .ok (.v (.str (shD as))) [] := by
  have e : lc0_show_day [some (.v (eDy as)), none, none] [] = .ok (as.map fun a => .str (shA a)) [] :=
    eLc_map as rfl (Nat.le_trans h.1 (by decide)) fun a ha => ⟨_, rfl, rfl, by
      have h0 := h.2 a ha
      have l1 := len_shL h0.1.okN
      have l2 := len_shL h0.2.okN
      have l3 : (">" : Str).length = 1 := by decide
      have g1 : (shL a.1).length + (">" : Str).length ≤ 16777216 := by omega
      have g2 : (shL a.1 ++ ">").length + (shL a.2).length ≤ 16777216 := by
        rw [len_app]
        omega
      simp [sRet, sRetN, sB, sSeq, sNx, sEx, sSet, sIf, sAsg, sKill, killR, eb, er, eX, eName, eCons, eNil, eCall, eCallKn, eOp2, eOp1, eAnd, eOr, eNot, eIf, eTest, eTruth, eAndT, eOrT, eNotT, eTup, eLst, eFz, eOwn, eLstO, frzS, onD, onD1, onR, eD, padR, gN, gT, gsC, gsN, xtF, flatM, Md.run, gP, allV, eYes, p_joined h0.1.okN, p_joined h0.2.okN, addD, g1, g2, shA]⟩
  have j := joinG_of (M := []) ";" (as.map shA) (n := 60) (k := 235) (by rw [List.length_map]; exact h.1) (fun y hy => by
    obtain ⟨n, hn, rfl⟩ := List.mem_map.mp hy
    exact len_shA (h.2 n hn)) (by decide)
  rw [List.map_map] at j
  have j2 : joinG ";" (.v (.lst (as.map fun a => .str (shA a)))) [] = .ok (.v (.str (Txt.join ";" (as.map shA)))) [] := j
  have d := p_is_day h
  have gdd : gd 40 (eDy as) = true := by
    unfold eDy gd
    simp [gd, eA, eL, nD]
  have gd0 : gd 40 (.lst []) = true := rfl
  cases as with
  | nil =>
    simp only [wide9, eDy, List.map_nil] at d
    simp [m_show_day, sm_show_day, st0_show_day, st1_show_day, st2_show_day, st3_show_day, sRet, sRetN, sB, sSeq, sNx, sEx, sSet, sIf, sAsg, sKill, killR, eb, er, eX, eName, eCons, eNil, eCall, eCallKn, eOp2, eOp1, eAnd, eOr, eNot, eIf, eTest, eTruth, eAndT, eOrT, eNotT, eTup, eLst, eFz, eOwn, eLstO, frzS, onD, onD1, onR, eD, padR, gN, gT, gsC, gsN, xtF, flatM, Md.run, gP, allV, eYes, d, eDy, rdS, eqR, gd, eqvD, eqvDs, shD]
  | cons a as =>
    have ne : eqvD (eDy (a :: as)) (.lst []) = false := rfl
    simp only [wide9] at d
    have e2 : eqR (eDy (a :: as)) (.lst []) = some false := by
      unfold eqR
      rw [if_pos ⟨gdd, gd0⟩, ne]
    simp only [List.map_cons] at j2
    simp [m_show_day, sm_show_day, st0_show_day, st1_show_day, st2_show_day, st3_show_day, sRet, sRetN, sB, sSeq, sNx, sEx, sSet, sIf, sAsg, sKill, killR, eb, er, eX, eName, eCons, eNil, eCall, eCallKn, eOp2, eOp1, eAnd, eOr, eNot, eIf, eTest, eTruth, eAndT, eOrT, eNotT, eTup, eLst, eFz, eOwn, eLstO, frzS, onD, onD1, onR, eD, padR, gN, gT, gsC, gsN, xtF, flatM, Md.run, gP, allV, eYes, d, rdS, e2, e, eM1, j2, shD]
end K45
end
section
namespace K45
open PySem PySem.Spec PyProof.Rows L2 Md
/-! ## signs -/
def Sg (p : Nat → Prop) (s : Str) : Prop := ∀ c ∈ TL.tl s, p c
theorem Sg.app {p : Nat → Prop} {a b : Str} (h : Sg p a) (g : Sg p b) : Sg p (a ++ b) := fun c hc => by
  rw [TL.tl_append] at hc
  exact (List.mem_append.mp hc).elim (h c) (g c)
theorem joinL_mem {S : List Nat} {c : Nat} : ∀ {ps : List (List Nat)}, c ∈ TL.joinL S ps → c ∈ S ∨ ∃ p ∈ ps, c ∈ p
  | [], h => by cases h
  | [p], h => .inr ⟨p, List.mem_cons_self, h⟩
  | p :: q :: r, h => by
    rcases List.mem_append.mp h with h | h
    · exact .inr ⟨p, List.mem_cons_self, h⟩
    · rcases List.mem_append.mp h with h | h
      · exact .inl h
      · rcases joinL_mem h with h | ⟨z, hz, h⟩
        · exact .inl h
        · exact .inr ⟨z, List.mem_cons_of_mem _ hz, h⟩
theorem Sg.join {p : Nat → Prop} {s : Str} {ys : List Str} (h : Sg p s) (g : ∀ y ∈ ys, Sg p y) : Sg p (Txt.join s ys) := fun c hc => by
  rw [TL.join_eq, TL.tl_join] at hc
  rcases joinL_mem hc with e | ⟨z, hz, e⟩
  · exact h c e
  · obtain ⟨y, hy, rfl⟩ := List.mem_map.mp hz
    exact g y hy c e
theorem Sg.imp {p q : Nat → Prop} {s : Str} (h : Sg p s) (i : ∀ c, p c → q c) : Sg q s := fun c hc => i c (h c hc)
theorem Sg.ok {s : Str} (h : Sg (· < 128) s) : PyData.strOk s = true := by
  unfold PyData.strOk
  rw [← Array.all_toList, List.all_eq_true]
  exact fun c hc => decide_eq_true (Nat.lt_trans (h c hc) (by decide +kernel))
/-- digits; signs of numbers' rows -/
def dg (c : Nat) : Prop := 48 ≤ c ∧ c ≤ 57
theorem sg_nS (n : Nat) : Sg dg (nS n) := fun c hc => by
  rw [tl_nS] at hc
  exact TL.numL_digits n c hc
theorem nS_ne (n : Nat) : TL.tl (nS n) ≠ [] := by
  rw [tl_nS]
  exact TL.numL_ne n
theorem sg_lit {p : Nat → Prop} {s : Str} {l : List Nat} (e : TL.tl s = l) (h : ∀ c ∈ l, p c) : Sg p s := fun c hc => h c (by rw [← e]; exact hc)
theorem tl_bl : TL.tl (" " : Str) = [32] := by decide +kernel
theorem tl_gt : TL.tl (">" : Str) = [62] := by decide +kernel
theorem tl_sc : TL.tl (";" : Str) = [59] := by decide +kernel
theorem tl_mi : TL.tl ("-" : Str) = [45] := by decide +kernel
theorem tl_dot : TL.tl ("." : Str) = [46] := by decide +kernel
theorem tl_0 : TL.tl ("0" : Str) = [48] := by decide +kernel
theorem tl_e : TL.tl ("" : Str) = [] := by decide +kernel
def row (c : Nat) : Prop := c = 32 ∨ dg c
theorem sg_shL (ns : List Nat) : Sg row (shL ns) := Sg.join (sg_lit tl_bl fun c h => .inl (by simpa using h)) fun y hy => by
  obtain ⟨n, _, rfl⟩ := List.mem_map.mp hy
  exact (sg_nS n).imp fun c h => .inr h
def rowA (c : Nat) : Prop := c = 62 ∨ row c
theorem sg_shA (a : List Nat × List Nat) : Sg rowA (shA a) := ((sg_shL a.1).imp fun c h => .inr h).app ((sg_lit tl_gt fun c h => .inl (by simpa using h))) |>.app ((sg_shL a.2).imp fun c h => .inr h)
theorem beq_str {x y : Str} (h : TL.tl x ≠ TL.tl y) : (x == y) = false := by
  cases e : x == y with
  | false => rfl
  | true => exact absurd (congrArg TL.tl (eq_of_beq e)) h
/-! ## reading numbers -/
theorem numL_head : ∀ (n : Nat), 0 < n → ∃ c r, TL.numL n = c :: r ∧ c ≠ 48 := by
  intro n
  induction n using Nat.strongRecOn with
  | _ n ih =>
    intro h
    by_cases h1 : n < 10
    · exact ⟨48 + n, [], TL.numL_lt h1, by omega⟩
    · obtain ⟨c, r, e, hc⟩ := ih (n / 10) (by omega) (by omega)
      exact ⟨c, r ++ [48 + n % 10], by rw [TL.numL_step (by omega), e]; rfl, hc⟩
theorem all_const {α : Type} (xs : List α) : allD (xs.map fun _ => D.bl true) = some (.bl true) := all_true xs
theorem p_need : m_need_text [.v (.bl true)] [] = .ok (.v .non) [] := rfl
theorem fig : (("0123456789" : Str).cps.toList) = [48, 49, 50, 51, 52, 53, 54, 55, 56, 57] := by decide +kernel
theorem in_fig {c : Nat} (h : dg c) : in2D (.str ⟨#[c]⟩) (.str "0123456789") = some (.bl true) := by
  have e : decide (c ∈ ("0123456789" : Str).cps.toList) = true := by
    rw [fig]
    obtain ⟨h1, h2⟩ := h
    have : c = 48 ∨ c = 49 ∨ c = 50 ∨ c = 51 ∨ c = 52 ∨ c = 53 ∨ c = 54 ∨ c = 55 ∨ c = 56 ∨ c = 57 := by omega
    simp [this]
  show (match (⟨#[c]⟩ : Str).cps.toList with
    | [c] => some (D.bl (decide (c ∈ ("0123456789" : Str).cps.toList)))
    | _ => none) = _
  show some (D.bl (decide (c ∈ ("0123456789" : Str).cps.toList))) = _
  rw [e]
theorem eqS {x y : Str} (hx : PyData.strOk x = true) (hy : PyData.strOk y = true) : eqR (.str x) (.str y) = some (x == y) := by
  unfold eqR
  rw [if_pos ⟨hx, hy⟩]
  rfl
theorem neS {x y : Str} (hx : PyData.strOk x = true) (hy : PyData.strOk y = true) : neR (.str x) (.str y) = some (!(x == y)) := by
  unfold neR
  rw [if_pos ⟨hx, hy⟩]
  rfl
theorem dg128 {s : Str} (h : Sg dg s) : PyData.strOk s = true := (h.imp fun c z => by have := z.2; show c < 128; omega).ok
theorem p_number_in {n : Nat} (h : n < big) : m_number_in [.v (.str (nS n))] [] = .ok (.v (nD n)) [] := by
  have ok := dg128 (sg_nS n)
  have e : lc0_number_in [some (.v (.str (nS n))), none] [] = .ok ((TL.tl (nS n)).map fun _ => .bl true) [] :=
    eLc_map (enc := fun c => .str ⟨#[c]⟩) (TL.tl (nS n)) rfl (by rw [← TL.len_tl]; exact Nat.le_trans (len_nS h) (by decide +kernel)) fun c hc => ⟨_, rfl, rfl, by
      have := in_fig (sg_nS n c hc)
      simp [sRet, sRetN, sB, sSeq, sNx, sEx, sSet, sIf, sAsg, sKill, killR, eb, er, eX, eName, eCons, eNil, eCall, eCallKn, eOp2, eOp1, eAnd, eOr, eNot, eIf, eTest, eTruth, eAndT, eOrT, eNotT, eTup, eLst, eFz, eOwn, eLstO, frzS, onD, onD1, onR, eD, padR, gN, gT, gsC, gsN, xtF, flatM, Md.run, gP, allV, eYes, this]⟩
  have n1 : neR (.str (nS n)) (.str "") = some true := by
    rw [neS ok (by decide +kernel), beq_str (by rw [tl_e]; exact nS_ne n)]
    rfl
  by_cases h0 : n = 0
  · subst h0
    have n2 : eqR (.str (nS 0)) (.str "0") = some true := by decide +kernel
    simp [m_number_in, sm_number_in, st0_number_in, st1_number_in, sRet, sRetN, sB, sSeq, sNx, sEx, sSet, sIf, sAsg, sKill, killR, eb, er, eX, eName, eCons, eNil, eCall, eCallKn, eOp2, eOp1, eAnd, eOr, eNot, eIf, eTest, eTruth, eAndT, eOrT, eNotT, eTup, eLst, eFz, eOwn, eLstO, frzS, onD, onD1, onR, eD, padR, gN, gT, gsC, gsN, xtF, flatM, Md.run, gP, allV, eYes, e, oneL, lstS, all_true, rdS, n1, n2, p_need, onL, int_nS h, nD]
  · obtain ⟨c, r, e1, e2⟩ := numL_head n (by omega)
    have e3 : TL.tl (nS n) = c :: r := by rw [tl_nS, e1]
    have n2 : eqR (.str (nS n)) (.str "0") = some false := by
      rw [eqS ok (by decide +kernel), beq_str]
      rw [e3, tl_0]
      exact fun z => e2 (List.cons.inj z).1
    have l : (nS n).length ≤ 16777216 := Nat.le_trans (len_nS h) (by decide +kernel)
    have i1 : ixD (.str (nS n)) (.int 0) = some (.str ⟨#[c]⟩) := by
      have e4 : getI (nS n).cps.toList 0 = some c := by
        show getI (TL.tl (nS n)) 0 = some c
        rw [e3]
        rfl
      simp only [ixD, if_pos l, e4]
    have dc : dg c := sg_nS n c (by rw [e3]; exact List.mem_cons_self)
    have n3 : neR (.str ⟨#[c]⟩) (.str "0") = some true := by
      rw [neS (dg128 (fun d hd => by rw [show TL.tl (⟨#[c]⟩ : Str) = [c] from rfl] at hd; rw [List.mem_singleton.mp hd]; exact dc)) (by decide +kernel), beq_str]
      · rfl
      · rw [tl_0]
        exact fun z => e2 (List.cons.inj z).1
    simp [m_number_in, sm_number_in, st0_number_in, st1_number_in, sRet, sRetN, sB, sSeq, sNx, sEx, sSet, sIf, sAsg, sKill, killR, eb, er, eX, eName, eCons, eNil, eCall, eCallKn, eOp2, eOp1, eAnd, eOr, eNot, eIf, eTest, eTruth, eAndT, eOrT, eNotT, eTup, eLst, eFz, eOwn, eLstO, frzS, onD, onD1, onR, eD, padR, gN, gT, gsC, gsN, xtF, flatM, Md.run, gP, allV, eYes, e, oneL, lstS, all_true, rdS, n1, n2, p_need, onL, int_nS h, nD, ixS, i1, n3]
/-! ## parts -/
theorem p_parts0 (b : Str) : m_parts_of [.v (.str ""), .v (.str b)] [] = .ok (.v (.lst [])) [] := by
  have n1 : neR (.str "") (.str "") = some false := by decide +kernel
  simp [m_parts_of, sm_parts_of, st0_parts_of, st1_parts_of, sRet, sRetN, sB, sSeq, sNx, sEx, sSet, sIf, sAsg, sKill, killR, eb, er, eX, eName, eCons, eNil, eCall, eCallKn, eOp2, eOp1, eAnd, eOr, eNot, eIf, eTest, eTruth, eAndT, eOrT, eNotT, eTup, eLst, eFz, eOwn, eLstO, frzS, onD, onD1, onR, eD, padR, gN, gT, gsC, gsN, xtF, flatM, Md.run, gP, allV, eYes, eIsi, isTy, rdS, n1, p_need]
theorem p_parts {x b : Str} (h : PyData.strOk x = true) (hx : TL.tl x ≠ []) (hb : (b.length == 0) = false) (hl : x.length + 2 ≤ 16777216) : m_parts_of [.v (.str x), .v (.str b)] [] = .ok (.v (.lst ((Txt.split x b).map .str))) [] := by
  have n1 : neR (.str x) (.str "") = some true := by
    rw [neS h (by decide +kernel), beq_str (by rw [tl_e]; exact hx)]
    rfl
  have hb' : ¬ b.length = 0 := by simpa using hb
  simp [m_parts_of, sm_parts_of, st0_parts_of, st1_parts_of, sRet, sRetN, sB, sSeq, sNx, sEx, sSet, sIf, sAsg, sKill, killR, eb, er, eX, eName, eCons, eNil, eCall, eCallKn, eOp2, eOp1, eAnd, eOr, eNot, eIf, eTest, eTruth, eAndT, eOrT, eNotT, eTup, eLst, eFz, eOwn, eLstO, frzS, onD, onD1, onR, eD, padR, gN, gT, gsC, gsN, xtF, flatM, Md.run, gP, allV, eYes, eIsi, isTy, rdS, n1, p_need, eSplit, hb', hl]
theorem row128 {s : Str} (h : Sg row s) : PyData.strOk s = true := (h.imp fun c z => by rcases z with z | z; (show c < 128); omega; have := z.2; show c < 128; omega).ok
theorem shL_ne {n : Nat} {ns : List Nat} : TL.tl (shL (n :: ns)) ≠ [] := by
  unfold shL
  rw [TL.join_eq, TL.tl_join]
  cases ns with
  | nil => exact nS_ne n
  | cons m ns =>
    intro z
    have := List.append_eq_nil_iff.mp z
    exact nS_ne n this.1
theorem len1 : ((" " : Str).length == 0) = false := by decide +kernel
theorem split_L {n : Nat} {ns : List Nat} : Txt.split (shL (n :: ns)) " " = (n :: ns).map nS :=
  TL.split_join (s := 32) (S := []) tl_bl (by decide +kernel) (by simp) fun p hp z => by
    obtain ⟨n, _, rfl⟩ := List.mem_map.mp hp
    have := sg_nS n 32 z
    exact absurd this.1 (by decide +kernel)
theorem p_numbers_in {ns : List Nat} (h : okN ns) : m_numbers_in [.v (.str (shL ns))] [] = .ok (.v (eL ns)) [] := by
  have e : lc0_numbers_in [some (.v (.str (shL ns))), none] [] = .ok (ns.map nD) [] := by
    have hi : eIt (eCall (gP m_parts_of) (eCons (eName 0) (eCons (er (.v (.str " "))) eNil))) [some (.v (.str (shL ns))), none] [] = .ok (ns.map fun n => .str (nS n)) [] := by
      cases ns with
      | nil =>
        have p : m_parts_of [.v (.str (shL [])), .v (.str " ")] [] = .ok (.v (.lst [])) [] := p_parts0 " "
        simp [eIt, sRet, sRetN, sB, sSeq, sNx, sEx, sSet, sIf, sAsg, sKill, killR, eb, er, eX, eName, eCons, eNil, eCall, eCallKn, eOp2, eOp1, eAnd, eOr, eNot, eIf, eTest, eTruth, eAndT, eOrT, eNotT, eTup, eLst, eFz, eOwn, eLstO, frzS, onD, onD1, onR, eD, padR, gN, gT, gsC, gsN, xtF, flatM, Md.run, gP, allV, eYes, p]
      | cons n ns =>
        have p := p_parts (b := " ") (row128 (sg_shL (n :: ns))) shL_ne len1 (by have := len_shL h; omega)
        rw [split_L, List.map_map] at p
        have p2 : m_parts_of [.v (.str (shL (n :: ns))), .v (.str " ")] [] = .ok (.v (.lst ((n :: ns).map fun n => .str (nS n)))) [] := p
        simp only [List.map_cons] at p2
        simp [eIt, sRet, sRetN, sB, sSeq, sNx, sEx, sSet, sIf, sAsg, sKill, killR, eb, er, eX, eName, eCons, eNil, eCall, eCallKn, eOp2, eOp1, eAnd, eOr, eNot, eIf, eTest, eTruth, eAndT, eOrT, eNotT, eTup, eLst, eFz, eOwn, eLstO, frzS, onD, onD1, onR, eD, padR, gN, gT, gsC, gsN, xtF, flatM, Md.run, gP, allV, eYes, p2]
    exact eLc_map (enc := fun n => .str (nS n)) ns hi (Nat.le_trans h.1 (by decide +kernel)) fun n hn => ⟨_, rfl, rfl, by simp [sRet, sRetN, sB, sSeq, sNx, sEx, sSet, sIf, sAsg, sKill, killR, eb, er, eX, eName, eCons, eNil, eCall, eCallKn, eOp2, eOp1, eAnd, eOr, eNot, eIf, eTest, eTruth, eAndT, eOrT, eNotT, eTup, eLst, eFz, eOwn, eLstO, frzS, onD, onD1, onR, eD, padR, gN, gT, gsC, gsN, xtF, flatM, Md.run, gP, allV, eYes, p_number_in (h.2 n hn)]⟩
  simp [m_numbers_in, sm_numbers_in, st0_numbers_in, sRet, sRetN, sB, sSeq, sNx, sEx, sSet, sIf, sAsg, sKill, killR, eb, er, eX, eName, eCons, eNil, eCall, eCallKn, eOp2, eOp1, eAnd, eOr, eNot, eIf, eTest, eTruth, eAndT, eOrT, eNotT, eTup, eLst, eFz, eOwn, eLstO, frzS, onD, onD1, onR, eD, padR, gN, gT, gsC, gsN, xtF, flatM, Md.run, gP, allV, eYes, e, tupS, seqS, lstS, eL]
theorem p_read_standing {ns : List Nat} (h : okN ns) (h1 : 1 ≤ ns.length) : m_read_standing [.v (.str (shL ns))] [] = .ok (.v (eL ns)) [] := by
  simp [m_read_standing, sm_read_standing, st0_read_standing, st1_read_standing, st2_read_standing, sRet, sRetN, sB, sSeq, sNx, sEx, sSet, sIf, sAsg, sKill, killR, eb, er, eX, eName, eCons, eNil, eCall, eCallKn, eOp2, eOp1, eAnd, eOr, eNot, eIf, eTest, eTruth, eAndT, eOrT, eNotT, eTup, eLst, eFz, eOwn, eLstO, frzS, onD, onD1, onR, eD, padR, gN, gT, gsC, gsN, xtF, flatM, Md.run, gP, allV, eYes, p_numbers_in h, p_are_amounts h h1, p_need]
/-! ## yards -/
def rowR (c : Nat) : Prop := c = 45 ∨ row c
theorem sg_rS (r : Option Nat) : Sg (fun c => c = 45 ∨ dg c) (rS r) := by
  cases r with
  | none => exact sg_lit tl_mi fun c h => .inl (by simpa using h)
  | some n => exact (sg_nS n).imp fun c h => .inr h
theorem sg_shR (rs : List (Option Nat)) : Sg rowR (shR rs) := Sg.join (sg_lit tl_bl fun c h => .inr (.inl (by simpa using h))) fun y hy => by
  obtain ⟨n, _, rfl⟩ := List.mem_map.mp hy
  exact (sg_rS n).imp fun c h => h.imp id .inr
theorem rowR128 {s : Str} (h : Sg rowR s) : PyData.strOk s = true := (h.imp fun c z => by
  show c < 128
  rcases z with z | z | z
  · omega
  · omega
  · have := z.2
    omega).ok
theorem rS_ne (r : Option Nat) : TL.tl (rS r) ≠ [] := by
  cases r with
  | none => exact fun z => by rw [show rS none = "-" from rfl, tl_mi] at z; cases z
  | some n => exact nS_ne n
theorem len_shR {rs : List (Option Nat)} (h : okR rs) : (shR rs).length ≤ 117 := by
  have l := len_join " " (rs.map rS) 12 fun y hy => by
    obtain ⟨n, hn, rfl⟩ := List.mem_map.mp hy
    cases n with
    | none => decide
    | some n => exact len_nS (h.2.2 n hn)
  rw [List.length_map] at l
  have h1 := h.2.1
  have e : (" " : Str).length = 1 := by decide +kernel
  rw [e] at l
  unfold shR
  omega
theorem p_read_yard {rs : List (Option Nat)} (h : okR rs) : m_read_yard [.v (.str (shR rs))] [] = .ok (.v (eR rs)) [] := by
  have e : lc0_read_yard [some (.v (.str (shR rs))), none, none] [] = .ok (rs.map rD) [] := by
    have hi : eIt (eCall (gP m_parts_of) (eCons (eName 0) (eCons (er (.v (.str " "))) eNil))) [some (.v (.str (shR rs))), none, none] [] = .ok (rs.map fun n => .str (rS n)) [] := by
      cases rs with
      | nil => exact absurd h.1 (by simp)
      | cons n ns =>
        have ne : TL.tl (shR (n :: ns)) ≠ [] := by
          unfold shR
          rw [TL.join_eq, TL.tl_join]
          cases ns with
          | nil => exact rS_ne n
          | cons m ns => exact fun z => rS_ne n (List.append_eq_nil_iff.mp z).1
        have p := p_parts (b := " ") (rowR128 (sg_shR (n :: ns))) ne len1 (by have := len_shR h; omega)
        have sp : Txt.split (shR (n :: ns)) " " = (n :: ns).map rS := TL.split_join (s := 32) (S := []) tl_bl (by decide +kernel) (by simp) fun p hp z => by
          obtain ⟨n, _, rfl⟩ := List.mem_map.mp hp
          rcases sg_rS n 32 z with q | q
          · exact absurd q (by decide +kernel)
          · exact absurd q.1 (by decide +kernel)
        rw [sp, List.map_map] at p
        have p2 : m_parts_of [.v (.str (shR (n :: ns))), .v (.str " ")] [] = .ok (.v (.lst ((n :: ns).map fun n => .str (rS n)))) [] := p
        simp only [List.map_cons] at p2
        simp [eIt, sRet, sRetN, sB, sSeq, sNx, sEx, sSet, sIf, sAsg, sKill, killR, eb, er, eX, eName, eCons, eNil, eCall, eCallKn, eOp2, eOp1, eAnd, eOr, eNot, eIf, eTest, eTruth, eAndT, eOrT, eNotT, eTup, eLst, eFz, eOwn, eLstO, frzS, onD, onD1, onR, eD, padR, gN, gT, gsC, gsN, xtF, flatM, Md.run, gP, allV, eYes, p2]
    refine eLc_map (enc := fun n => .str (rS n)) rs hi (Nat.le_trans h.2.1 (by decide +kernel)) fun r hr => ⟨_, rfl, rfl, ?_⟩
    cases r with
    | none =>
      have q : eqR (.str (rS none)) (.str "-") = some true := by decide +kernel
      simp [sRet, sRetN, sB, sSeq, sNx, sEx, sSet, sIf, sAsg, sKill, killR, eb, er, eX, eName, eCons, eNil, eCall, eCallKn, eOp2, eOp1, eAnd, eOr, eNot, eIf, eTest, eTruth, eAndT, eOrT, eNotT, eTup, eLst, eFz, eOwn, eLstO, frzS, onD, onD1, onR, eD, padR, gN, gT, gsC, gsN, xtF, flatM, Md.run, gP, allV, eYes, rdS, q, rD]
    | some n =>
      have q : eqR (.str (rS (some n))) (.str "-") = some false := by
        show eqR (.str (nS n)) (.str "-") = some false
        rw [eqS (dg128 (sg_nS n)) (by decide +kernel), beq_str]
        intro z
        have := sg_nS n 45 (by
          have z2 : TL.tl (nS n) = TL.tl ("-" : Str) := z
          rw [z2, tl_mi]
          exact List.mem_cons_self)
        exact absurd this.1 (by decide +kernel)
      have q2 := p_number_in (h.2.2 n hr)
      simp [sRet, sRetN, sB, sSeq, sNx, sEx, sSet, sIf, sAsg, sKill, killR, eb, er, eX, eName, eCons, eNil, eCall, eCallKn, eOp2, eOp1, eAnd, eOr, eNot, eIf, eTest, eTruth, eAndT, eOrT, eNotT, eTup, eLst, eFz, eOwn, eLstO, frzS, onD, onD1, onR, eD, padR, gN, gT, gsC, gsN, xtF, flatM, Md.run, gP, allV, eYes, rdS, q, rD, rS] at q ⊢
      simp [q, q2, nD]
  have y := p_is_yard h
  simp [m_read_yard, sm_read_yard, st0_read_yard, st1_read_yard, st2_read_yard, sRet, sRetN, sB, sSeq, sNx, sEx, sSet, sIf, sAsg, sKill, killR, eb, er, eX, eName, eCons, eNil, eCall, eCallKn, eOp2, eOp1, eAnd, eOr, eNot, eIf, eTest, eTruth, eAndT, eOrT, eNotT, eTup, eLst, eFz, eOwn, eLstO, frzS, onD, onD1, onR, eD, padR, gN, gT, gsC, gsN, xtF, flatM, Md.run, gP, allV, eYes, e, tupS, seqS, lstS, p_need]
  simp only [eR] at y ⊢
  simp [y, sRet, sRetN, sB, sSeq, sNx, sEx, sSet, sIf, sAsg, sKill, killR, eb, er, eX, eName, eCons, eNil, eCall, eCallKn, eOp2, eOp1, eAnd, eOr, eNot, eIf, eTest, eTruth, eAndT, eOrT, eNotT, eTup, eLst, eFz, eOwn, eLstO, frzS, onD, onD1, onR, eD, padR, gN, gT, gsC, gsN, xtF, flatM, Md.run, gP, allV, eYes, p_need]
/-! ## days -/
theorem p_two_in (a : List Nat × List Nat) (h : okP a.1 ∧ okP a.2) : m_two_in [.v (.str (shA a))] [] = .ok (.v (.tup [.str (shL a.1), .str (shL a.2)])) [] := by
  have p : Txt.partition (shA a) ">" = (shL a.1, (">" : Str), shL a.2) := TL.partition_app (s := 62) (S := []) tl_gt fun z => by
    rcases sg_shL a.1 62 z with q | q
    · exact absurd q (by decide +kernel)
    · exact absurd q.2 (by decide +kernel)
  have l : (shA a).length ≤ 16777216 := Nat.le_trans (len_shA h) (by decide +kernel)
  have q : eqR (.str ">") (.str ">") = some true := by decide +kernel
  have b : ¬ (">" : Str).length = 0 := by decide +kernel
  simp [m_two_in, sm_two_in, st0_two_in, st1_two_in, st2_two_in, sRet, sRetN, sB, sSeq, sNx, sEx, sSet, sIf, sAsg, sKill, killR, eb, er, eX, eName, eCons, eNil, eCall, eCallKn, eOp2, eOp1, eAnd, eOr, eNot, eIf, eTest, eTruth, eAndT, eOrT, eNotT, eTup, eLst, eFz, eOwn, eLstO, frzS, onD, onD1, onR, eD, padR, gN, gT, gsC, gsN, xtF, flatM, Md.run, gP, allV, eYes, eM1, partG, p, l, b, rdS, q, p_need]
theorem p_ask_in (a : List Nat × List Nat) (h : okP a.1 ∧ okP a.2) : m_ask_in [.v (.str (shA a))] [] = .ok (.v (eA a)) [] := by
  simp [m_ask_in, sm_ask_in, st0_ask_in, st1_ask_in, sRet, sRetN, sB, sSeq, sNx, sEx, sSet, sIf, sAsg, sKill, killR, eb, er, eX, eName, eCons, eNil, eCall, eCallKn, eOp2, eOp1, eAnd, eOr, eNot, eIf, eTest, eTruth, eAndT, eOrT, eNotT, eTup, eLst, eFz, eOwn, eLstO, frzS, onD, onD1, onR, eD, padR, gN, gT, gsC, gsN, xtF, flatM, Md.run, gP, allV, eYes, p_two_in a h, p_numbers_in h.1.okN, p_numbers_in h.2.okN, eA]
theorem rowA128 {s : Str} (h : Sg (fun c => c = 59 ∨ rowA c) s) : PyData.strOk s = true := (h.imp fun c z => by
  show c < 128
  rcases z with z | z | z | z
  · omega
  · omega
  · omega
  · have := z.2
    omega).ok
theorem p_read_day0 : m_read_day [.v (.str ".")] [] = .ok (.r 0) [some (.lst [])] := by
  have q : eqR (.str ".") (.str ".") = some true := by decide +kernel
  simp [m_read_day, sm_read_day, st0_read_day, st1_read_day, st2_read_day, st3_read_day, st4_read_day, st5_read_day, sRet, sRetN, sB, sSeq, sNx, sEx, sSet, sIf, sAsg, sKill, killR, eb, er, eX, eName, eCons, eNil, eCall, eCallKn, eOp2, eOp1, eAnd, eOr, eNot, eIf, eTest, eTruth, eAndT, eOrT, eNotT, eTup, eLst, eFz, eOwn, eLstO, frzS, onD, onD1, onR, eD, padR, gN, gT, gsC, gsN, xtF, flatM, Md.run, gP, allV, eYes, eIsi, isTy, rdS, q, p_need, xtO, flatO]
theorem p_read_day {as : List (List Nat × List Nat)} (h : okD as) : m_read_day [.v (.str (shD as))] [] = .ok (.r 0) [some (.lst ((as.map eA).map .v))] := by
  cases as with
  | nil => exact p_read_day0
  | cons a as =>
    have hd : shD (a :: as) = Txt.join ";" ((a :: as).map shA) := if_neg (by simp)
    have sg : Sg (fun c => c = 59 ∨ rowA c) (shD (a :: as)) := by
      rw [hd]
      exact Sg.join (sg_lit tl_sc fun c h => .inl (by simpa using h)) fun y hy => by
        obtain ⟨n, _, rfl⟩ := List.mem_map.mp hy
        exact (sg_shA n).imp fun c h => .inr h
    have q : eqR (.str (shD (a :: as))) (.str ".") = some false := by
      rw [eqS (rowA128 sg) (by decide +kernel), beq_str]
      intro z
      have := sg 46 (by rw [z, tl_dot]; exact List.mem_cons_self)
      rcases this with z | z | z | z
      · exact absurd z (by decide +kernel)
      · exact absurd z (by decide +kernel)
      · exact absurd z (by decide +kernel)
      · exact absurd z.1 (by decide +kernel)
    have l : (shD (a :: as)).length + 2 ≤ 16777216 := by
      have l := len_join ";" ((a :: as).map shA) 235 fun y hy => by
        obtain ⟨n, hn, rfl⟩ := List.mem_map.mp hy
        exact len_shA (h.2 n hn)
      rw [List.length_map] at l
      have h1 := h.1
      have e : (";" : Str).length = 1 := by decide +kernel
      rw [e] at l
      rw [hd]
      omega
    have sp : Txt.split (shD (a :: as)) ";" = (a :: as).map shA := by
      rw [hd]
      exact TL.split_join (s := 59) (S := []) tl_sc (by decide +kernel) (by simp) fun p hp z => by
        obtain ⟨n, _, rfl⟩ := List.mem_map.mp hp
        rcases sg_shA n 59 z with q | q | q
        · exact absurd q (by decide +kernel)
        · exact absurd q (by decide +kernel)
        · exact absurd q.2 (by decide +kernel)
    have e : lc0_read_day [some (.v (.str (shD (a :: as)))), none, none] [] = .ok ((a :: as).map eA) [] := by
      have hi : eIt (eFz (eSplit (eName 0) (er (.v (.str ";"))))) [some (.v (.str (shD (a :: as)))), none, none] [] = .ok ((a :: as).map fun a => .str (shA a)) [] := by
        have b : ¬ (";" : Str).length = 0 := by decide +kernel
        simp [eIt, sRet, sRetN, sB, sSeq, sNx, sEx, sSet, sIf, sAsg, sKill, killR, eb, er, eX, eName, eCons, eNil, eCall, eCallKn, eOp2, eOp1, eAnd, eOr, eNot, eIf, eTest, eTruth, eAndT, eOrT, eNotT, eTup, eLst, eFz, eOwn, eLstO, frzS, onD, onD1, onR, eD, padR, gN, gT, gsC, gsN, xtF, flatM, Md.run, gP, allV, eYes, eSplit, b, l, sp]
      exact eLc_map (enc := fun a => .str (shA a)) (a :: as) hi (Nat.le_trans h.1 (by decide +kernel)) fun r hr => ⟨_, rfl, rfl, by simp [sRet, sRetN, sB, sSeq, sNx, sEx, sSet, sIf, sAsg, sKill, killR, eb, er, eX, eName, eCons, eNil, eCall, eCallKn, eOp2, eOp1, eAnd, eOr, eNot, eIf, eTest, eTruth, eAndT, eOrT, eNotT, eTup, eLst, eFz, eOwn, eLstO, frzS, onD, onD1, onR, eD, padR, gN, gT, gsC, gsN, xtF, flatM, Md.run, gP, allV, eYes, p_ask_in r (h.2 r hr)]⟩
    have d := p_is_day h
    simp only [wide9, eDy] at d
    have rd : ∀ ds : List D, rdL (rdS 3 [some (.lst (ds.map .v))]) (ds.map .v) = some ds := fun ds => by
      generalize [some (MO.lst (ds.map .v))] = M
      induction ds with
      | nil => rfl
      | cons x ds ih => simp [rdL, rdS, ih]
    have rd2 := rd ((a :: as).map eA)
    simp only [List.map_cons] at d rd2 e
    have f : allV ((as.map eA).map .v) = true := by
      induction as.map eA with
      | nil => rfl
      | cons x xs ih => exact ih
    simp [m_read_day, sm_read_day, st0_read_day, st1_read_day, st2_read_day, st3_read_day, st4_read_day, st5_read_day, sRet, sRetN, sB, sSeq, sNx, sEx, sSet, sIf, sAsg, sKill, killR, eb, er, eX, eName, eCons, eNil, eCall, eCallKn, eOp2, eOp1, eAnd, eOr, eNot, eIf, eTest, eTruth, eAndT, eOrT, eNotT, eTup, eLst, eFz, eOwn, eLstO, frzS, onD, onD1, onR, eD, padR, gN, gT, gsC, gsN, xtF, flatM, Md.run, gP, allV, eYes, eIsi, isTy, rdS, q, p_need, e, gBr, rdL] at d rd2 f ⊢
    simp [rd2, d, scD, p_need, xtO, flatO, f, allV, flatM]
end K45
end
section
namespace K45
open PySem PySem.Spec PyProof.Rows L2 Md
/-! ## drawn numbers -/
def cartL (a b c : Int) : MO := .lst [.v (.int a), .v (.int b), .v (.int c)]
def CartOk (N : Nat) (o : MO) : Prop := ∃ a b c : Int, o = cartL a b c ∧ 0 ≤ b ∧ b < 2 ^ 150 ∧ 0 ≤ c ∧ c ≤ N
theorem CartOk.mono {N N' : Nat} {o : MO} (h : CartOk N o) (l : N ≤ N') : CartOk N' o := by
  obtain ⟨a, b, c, h1, h2, h3, h4, h5⟩ := h
  exact ⟨a, b, c, h1, h2, h3, h4, by omega⟩
theorem CartOk.flat {N : Nat} {o : MO} (h : CartOk N o) : flatO o = true := by
  obtain ⟨a, b, c, rfl, _⟩ := h
  rfl
theorem lg {x : Int} {k : Nat} (h0 : 0 ≤ x) (h : x < 2 ^ k) (hk : 0 < k) : x.natAbs.log2 < k := by
  have e : x.natAbs < 2 ^ k := by
    have : ((x.natAbs : Nat) : Int) < ((2 ^ k : Nat) : Int) := by
      rw [Int.natAbs_of_nonneg h0]
      simpa using h
    exact Int.ofNat_lt.mp this
  by_cases z : x.natAbs = 0
  · rw [z]
    simpa using hk
  · exact (Nat.log2_lt z).mpr e
theorem powD_of {i j : Int} (h : 0 ≤ j ∧ ((i.natAbs.log2 : Int) + 1) * j ≤ 134217728) : powD (.int i) (.int j) = some (.int (i ^ j.toNat)) := if_pos h
theorem modD_of {i j : Int} (h : 0 < j) : modD (.int i) (.int j) = some (.int (i % j)) := if_pos h
theorem divD_of {i j : Int} (h : 0 < j ∧ j.natAbs.log2 < 9000) : divD (.int i) (.int j) = some (.int (i / j)) := if_pos h
theorem mulD_of {i j : Int} (h : mulOk i j = true) : mulD (.int i) (.int j) = some (.int (i * j)) := if_pos h
def T38 : Int := 10 ^ 38
def T37 : Int := 10 ^ 37
def T35 : Int := 10 ^ 35
def T18 : Int := 10 ^ 18
def B12 : Nat := 10 ^ 12
theorem p38 : powD (.int 10) (.int 38) = some (.int T38) := powD_of (by decide +kernel)
theorem p35 : powD (.int 10) (.int 35) = some (.int T35) := powD_of (by decide +kernel)
theorem p37 : powD (.int 10) (.int 37) = some (.int T37) := powD_of (by decide +kernel)
theorem p18 : powD (.int 10) (.int 18) = some (.int T18) := powD_of (by decide +kernel)
theorem p12 : powD (.int 10) (.int 12) = some (.int (B12 : Int)) := powD_of (by decide +kernel)
theorem T38_0 : 0 < T38 + 133 ∧ T38 + 133 < 2 ^ 150 := by decide +kernel
theorem T35_0 : 0 < T35 + 69 ∧ T35 + 69 < 2 ^ 150 := by decide +kernel
theorem T37_0 : 0 < T37 + 43 ∧ T37 + 43 < 2 ^ 140 := by decide +kernel
theorem cube {x : Int} (h0 : 0 ≤ x) (h : x < 2 ^ 200) : powD (.int x) (.int 3) = some (.int (x ^ 3)) := powD_of (by
  have := lg h0 h (by decide)
  exact ⟨by decide, by omega⟩)
theorem mul_ok {i j : Int} (h0 : 0 ≤ i) (h : i < 2 ^ 200) (h1 : 0 ≤ j) (h2 : j < 2 ^ 200) : mulOk i j = true := by
  have a := lg h0 h (by decide)
  have b := lg h1 h2 (by decide)
  exact decide_eq_true (by omega)
theorem p_pull {N : Nat} {o : MO} (h : CartOk N o) (hN : N < 2 ^ 60) (w : Nat) (hw : 0 < w) (hw2 : w ≤ big) :
    ∃ (r : Nat) (o' : MO), r < w ∧ CartOk (N + 1) o' ∧ m__law_pull [.r 0, .v (.int w)] [some o] = .ok (.v (nD r)) [some o'] := by
  obtain ⟨a, b, c, rfl, h2, h3, h4, h5⟩ := h
  have wp : (0 : Int) < (w : Int) := by omega
  have wl : (w : Int).natAbs.log2 < 9000 := Nat.lt_trans (lg (k := 60) (by omega) (by
    have : (w : Int) ≤ 10 ^ 12 := by exact_mod_cast hw2
    have e : (10 : Int) ^ 12 < 2 ^ 60 := by decide
    omega) (by decide)) (by decide)
  by_cases ha : 0 < a
  · refine ⟨(a % w).toNat, cartL (a / w) b c, ?_, ⟨_, _, _, rfl, h2, h3, h4, by omega⟩, ?_⟩
    · have := Int.emod_lt_of_pos a wp
      have := Int.emod_nonneg a (by omega : (w : Int) ≠ 0)
      omega
    · have e : ((a % w).toNat : Int) = a % w := Int.toNat_of_nonneg (Int.emod_nonneg a (by omega : (w : Int) ≠ 0))
      simp [m__law_pull, sm__law_pull, st0__law_pull, st1__law_pull, st2__law_pull, st3__law_pull, st4__law_pull, st5__law_pull, st6__law_pull, st7__law_pull, sRet, sRetN, sB, sSeq, sNx, sEx, sSet, sIf, sAsg, sKill, killR, eb, er, eX, eName, eCons, eNil, eCall, eCallKn, eOp2, eOp1, eAnd, eOr, eNot, eIf, eTest, eTruth, eAndT, eOrT, eNotT, eTup, eLst, eFz, eOwn, eLstO, frzS, onD, onD1, onR, eD, padR, gN, gT, gsC, gsN, xtF, flatM, Md.run, gP, allV, eYes, ixS, getI, cartL, gtD, cmpD, ha, modD_of wp, divD_of ⟨wp, wl⟩, sSetIx, ixM, lsM, flatO, nD, e]
  · have c1 : (0 : Int) ≤ c + 1 := by omega
    have c2 : c + 1 < 2 ^ 61 := by
      have : (N : Int) < 2 ^ 60 := by exact_mod_cast hN
      omega
    have m1 : mulOk 32452843 (c + 1) = true := mul_ok (by decide) (by decide +kernel) c1 (Int.lt_trans c2 (by decide +kernel))
    have m2 : mulOk 141650939 (c + 1) = true := mul_ok (by decide) (by decide +kernel) c1 (Int.lt_trans c2 (by decide +kernel))
    have x1 : 0 ≤ b + 32452843 * (c + 1) := by omega
    have x2 : b + 32452843 * (c + 1) < 2 ^ 200 := by omega
    have q1 := T38_0.1
    have q2 := T35_0.1
    have y1 := Int.emod_nonneg ((b + 32452843 * (c + 1)) ^ 3) (by omega : T38 + 133 ≠ 0)
    have y2 := Int.emod_lt_of_pos ((b + 32452843 * (c + 1)) ^ 3) q1
    generalize hy : (b + 32452843 * (c + 1)) ^ 3 % (T38 + 133) = y at y1 y2
    have z1 : 0 ≤ y + 141650939 * (c + 1) := by omega
    have z2 : y + 141650939 * (c + 1) < 2 ^ 200 := by
      have := T38_0.2
      omega
    have d1 : (0 : Int) < 131071 ∧ (131071 : Int).natAbs.log2 < 9000 := by decide +kernel
    generalize hz : (y + 141650939 * (c + 1)) ^ 3 % (T35 + 69) = z
    have v0 : 0 ≤ z / 131071 % w := Int.emod_nonneg _ (by omega)
    have v1 : z / 131071 % w < w := Int.emod_lt_of_pos _ wp
    refine ⟨(z / 131071 % w).toNat, cartL a b (c + 1), ?_, ⟨_, _, _, rfl, h2, h3, c1, by omega⟩, ?_⟩
    · omega
    · have e : ((z / 131071 % w).toNat : Int) = z / 131071 % w := Int.toNat_of_nonneg v0
      have ha' : decide (0 < a) = false := decide_eq_false ha
      have s3 : st3__law_pull [some (.r 0), some (.v (.int w)), none, none] [some (cartL a b c)] = .nx [some (.r 0), some (.v (.int w)), none, none] [some (cartL a b c)] := by
        simp [st3__law_pull, sRet, sRetN, sB, sSeq, sNx, sEx, sSet, sIf, sAsg, sKill, killR, eb, er, eX, eName, eCons, eNil, eCall, eCallKn, eOp2, eOp1, eAnd, eOr, eNot, eIf, eTest, eTruth, eAndT, eOrT, eNotT, eTup, eLst, eFz, eOwn, eLstO, frzS, onD, onD1, onR, eD, padR, gN, gT, gsC, gsN, xtF, flatM, Md.run, gP, allV, eYes, ixS, getI, cartL, gtD, cmpD, ha']
      have s4 : st4__law_pull [some (.r 0), some (.v (.int w)), none, none] [some (cartL a b c)] = .nx [some (.r 0), some (.v (.int w)), none, none] [some (cartL a b (c + 1))] := by
        simp [st4__law_pull, sRet, sRetN, sB, sSeq, sNx, sEx, sSet, sIf, sAsg, sKill, killR, eb, er, eX, eName, eCons, eNil, eCall, eCallKn, eOp2, eOp1, eAnd, eOr, eNot, eIf, eTest, eTruth, eAndT, eOrT, eNotT, eTup, eLst, eFz, eOwn, eLstO, frzS, onD, onD1, onR, eD, padR, gN, gT, gsC, gsN, xtF, flatM, Md.run, gP, allV, eYes, ixS, getI, cartL, addD, sSetIx, ixM, lsM]
      have s5 : st5__law_pull [some (.r 0), some (.v (.int w)), none, none] [some (cartL a b (c + 1))] = .nx [some (.r 0), some (.v (.int w)), some (.v (.int y)), none] [some (cartL a b (c + 1))] := by
        have e1 : modD (.int ((b + 32452843 * (c + 1)) ^ 3)) (.int (T38 + 133)) = some (.int y) := by rw [modD_of q1, hy]
        exact s_set (e_opD (e_opD (e_opD rfl (e_opD rfl rfl (mulD_of m1)) rfl) rfl (cube x1 x2)) (e_opD (e_opD rfl rfl p38) rfl rfl) e1)
      have s6 : st6__law_pull [some (.r 0), some (.v (.int w)), some (.v (.int y)), none] [some (cartL a b (c + 1))] = .nx [some (.r 0), some (.v (.int w)), some (.v (.int (z))), none] [some (cartL a b (c + 1))] := by
        have e1 : modD (.int ((y + 141650939 * (c + 1)) ^ 3)) (.int (T35 + 69)) = some (.int z) := by rw [modD_of q2, hz]
        exact s_set (e_opD (e_opD (e_opD rfl (e_opD rfl rfl (mulD_of m2)) rfl) rfl (cube z1 z2)) (e_opD (e_opD rfl rfl p35) rfl rfl) e1)
      have s7 : st7__law_pull [some (.r 0), some (.v (.int w)), some (.v (.int (z))), none] [some (cartL a b (c + 1))] = .rt (.v (.int (z / 131071 % w))) [some (cartL a b (c + 1))] := by
        simp [st7__law_pull, sRet, sRetN, sB, sSeq, sNx, sEx, sSet, sIf, sAsg, sKill, killR, eb, er, eX, eName, eCons, eNil, eCall, eCallKn, eOp2, eOp1, eAnd, eOr, eNot, eIf, eTest, eTruth, eAndT, eOrT, eNotT, eTup, eLst, eFz, eOwn, eLstO, frzS, onD, onD1, onR, eD, padR, gN, gT, gsC, gsN, xtF, flatM, Md.run, gP, allV, eYes, divD_of d1, modD_of wp]
      rw [nD, e]
      have all : sm__law_pull [some (.r 0), some (.v (.int w)), none, none] [some (cartL a b c)] = .rt (.v (.int (z / 131071 % w))) [some (cartL a b (c + 1))] := by
        simp only [sm__law_pull, sSeq, s3, s4, s5, s6, s7]
      refine (run_eq ⟨rfl, rfl⟩).trans ?_
      show xtF 1 (sm__law_pull [some (.r 0), some (.v (.int w)), none, none] [some (cartL a b c)]) = _
      rw [all]
      rfl
theorem pullB {N : Nat} {o : MO} (h : CartOk N o) (hN : N < 2 ^ 60) (w : Nat) (hw : 0 < w) (hw2 : w ≤ big) :
    ∃ (r : Nat) (o' : MO), r < w ∧ CartOk (N + 1) o' ∧ ∀ M, gB m__law_pull [.r 0, .v (.int w)] (some o :: M) = .ok (.v (nD r)) (some o' :: M) := by
  obtain ⟨r, o', h1, h2, h3⟩ := p_pull h hN w hw hw2
  exact ⟨r, o', h1, h2, fun M => gB_of h3 h.flat h2.flat rfl M⟩
theorem B12_le : B12 ≤ big := Nat.le_refl _
/-! ## rooms -/
theorem b_rooms {N : Nat} {o : MO} (h : CartOk N o) (hN : N + 3 < 2 ^ 60) (lean : Nat) (hl : lean < 3) (x9 d : S) (xs : List S) (hx : xs.length < 9) :
    ∃ (r : Option Nat) (o' : MO), (∀ n, r = some n → n < big) ∧ CartOk (N + 3) o' ∧
      bo0__law_rooms [some (.r 0), some x9, some (.v (nD lean)), some (.r 1), some d] [some o, some (.lst xs)] = .nx [some (.r 0), some x9, some (.v (nD lean)), some (.r 1), none] [some o', some (.lst (xs ++ [.v (rD r)]))] := by
  obtain ⟨r1, o1, a1, a2, a3⟩ := pullB h (by omega) 4 (by decide) (by decide)
  obtain ⟨r2, o2, b1, b2, b3⟩ := pullB a2 (by omega) B12 (by decide) B12_le
  obtain ⟨r3, o3, c1, c2, c3⟩ := pullB b2 (by omega) (1 + lean) (by omega) (Nat.le_trans (show 1 + lean ≤ 3 by omega) (by decide))
  have i : ∃ r : Option Nat, (∀ n, r = some n → n < big) ∧ ixD (.lst [D.non, nD r1, nD r2]) (nD r3) = some (rD r) := by
    have : r3 = 0 ∨ r3 = 1 ∨ r3 = 2 := by omega
    rcases this with e | e | e
    · exact ⟨none, fun n z => (by cases z), by rw [e]; rfl⟩
    · exact ⟨some r1, fun n z => (by cases z; exact Nat.lt_of_lt_of_le a1 (by decide)), by rw [e]; rfl⟩
    · exact ⟨some r2, fun n z => (by cases z; exact b1), by rw [e]; rfl⟩
  obtain ⟨r, r4, r5⟩ := i
  have hx2 : xs.length < 16777216 := by omega
  have w : addD (.int 1) (nD lean) = some (.int ((1 + lean : Nat) : Int)) := by simp [addD, nD]
  refine ⟨r, o3, r4, c2, s_kill (s_ex (s := .v .non) (e_meL rfl rfl (e_one (e_ixD (e_fz (e_lst (e_cons rfl (e_two (e_call (e_two rfl rfl) (a3 _)) (e_call (e_two rfl (e_opD rfl rfl p12)) (b3 _)))) rfl (by simp))) (e_call (e_two rfl (e_opD rfl rfl w)) (c3 _)) r5)) ?_))⟩
  simp [onLs, lsM, appF, hx2]
def roomsJ (lean : Nat) (N : Nat) : Nat → Rho → Mh → Prop := fun k ρ M => ∃ (rs : List (Option Nat)) (o' : MO) (d : Option S), rs.length = k ∧ (∀ k, some k ∈ rs → k < big) ∧ CartOk (N + 3 * k) o' ∧
    ρ = [some (.r 0), some (.v (.int 9)), some (.v (nD lean)), some (.r 1), d] ∧ M = [some o', some (.lst ((rs.map rD).map .v))]
theorem l_rooms {N n lean : Nat} {o : MO} (h : CartOk N o) (hN : N + 30 < 2 ^ 60) (hl : lean < 3) (hn : n ≤ 9) :
    ∃ ρ' M', forL (gN 4) bo0__law_rooms (rngD 0 n) [some (.r 0), some (.v (.int 9)), some (.v (nD lean)), some (.r 1), none] [some o, some (.lst [])] = .nx ρ' M' ∧ roomsJ lean N n ρ' M' := by
  obtain ⟨ρ', M', z1, z2⟩ := f_inv (g := gN 4) (b := bo0__law_rooms) (roomsJ lean N) (ds := rngD 0 n) (k := 0) (ρ := [some (.r 0), some (.v (.int 9)), some (.v (nD lean)), some (.r 1), none]) (M := [some o, some (.lst [])])
    ⟨[], o, none, rfl, fun k z => (by cases z), h, rfl, rfl⟩ fun i d ρ M hi hJ => by
      obtain ⟨rs, o', d', e1, e2, e3, rfl, rfl⟩ := hJ
      obtain ⟨l, _⟩ := rngD_at hi
      obtain ⟨r, o'', g1, g2, g3⟩ := b_rooms e3 (by omega) lean hl (.v (.int 9)) (.v d) ((rs.map rD).map .v) (by simp; omega)
      refine ⟨_, _, _, rfl, g3, rs ++ [r], o'', none, by simp [e1], fun k z => ?_, g2.mono (by omega), rfl, by simp⟩
      rcases List.mem_append.mp z with z | z
      · exact e2 k z
      · exact g1 k (List.mem_singleton.mp z).symm
  rw [len_rngD, Nat.zero_add] at z2
  exact ⟨ρ', M', z1, z2⟩
theorem frz_vs {o : MO} (ds : List D) : lstS (.r 1) [some o, some (.lst (ds.map .v))] = some ds := by
  show frzS (ds.map .v) = some ds
  exact frzS_map ds
theorem p_rooms {N : Nat} {o : MO} (h : CartOk N o) (hN : N + 40 < 2 ^ 60) :
    ∃ (rs : List (Option Nat)) (o' : MO), okR rs ∧ CartOk (N + 40) o' ∧ m__law_rooms [.r 0, .v (.int 9)] [some o] = .ok (.v (eR rs)) [some o'] := by
  obtain ⟨lean, o1, a1, a2, a3⟩ := pullB h (by omega) 3 (by decide) (by decide)
  obtain ⟨n, o2, b1, b2, b3⟩ := pullB a2 (by omega) 9 (by decide) (by decide)
  obtain ⟨ρ', M', z1, rs, o', d, e1, e2, e3, rfl, rfl⟩ := l_rooms (n := 1 + n) b2 (by omega) a1 (by omega)
  have w : addD (.int 1) (nD n) = some (.int ((1 + n : Nat) : Int)) := by simp [addD, nD]
  refine ⟨rs, o', ⟨by omega, by omega, e2⟩, e3.mono (by omega), (run_eq ⟨rfl, rfl⟩).trans ?_⟩
  have all : sm__law_rooms [some (.r 0), some (.v (.int 9)), none, none, none] [some o] = .rt (.v (eR rs)) [some o', some (.lst ((rs.map rD).map .v))] := by
    refine s_seq (s_set (e_call (e_two rfl rfl) (a3 []))) (s_seq (s_set (e_own (e_lst rfl rfl (by decide)))) (s_seq (s_for (it_rng1 (e_one (e_opD rfl (e_call (e_two rfl rfl) (b3 [some (.lst [])])) w)) (by omega)) z1) (s_ret (e_call (e_one rfl) ?_))))
    show tupS [.r 1] _ = _
    simp only [tupS, seqS, frz_vs]
    rfl
  show xtF 1 (sm__law_rooms [some (.r 0), some (.v (.int 9)), none, none, none] [some o]) = _
  rw [all]
  simp [xtF, flatM, e3.flat]
end K45
end
section
namespace K45
open PySem PySem.Spec PyProof.Rows L2 Md
/-! ## things -/
theorem app1 {o : MO} {xs : List S} {y : S} (h : xs.length < 16777216) : onLs appF (.r 1) [y] [some o, some (.lst xs)] = .ok (.v .non) [some o, some (.lst (xs ++ [y]))] := by
  simp [onLs, lsM, appF, h]
theorem third {r : Nat} (h : r < 4) : divD (nD r) (.int 3) = some (nD (r / 3)) := by
  rw [nD, divD_of (by decide)]
  simp [nD]
theorem min_n (a b : Nat) : minL [nD a, nD b] = some (nD (min b a)) := by
  unfold minL nD
  simp only [Option.some.injEq, D.int.injEq]
  by_cases h : (b : Int) < a
  · rw [if_pos h]; omega
  · rw [if_neg h]; omega
theorem two_at {a b : Nat} {r : Nat} (h : r < 4) : ∃ k, (k = a ∨ k = b) ∧ ixD (.lst [nD a, nD b]) (nD (r / 3)) = some (nD k) := by
  have : r / 3 = 0 ∨ r / 3 = 1 := by omega
  rcases this with e | e
  · exact ⟨a, .inl rfl, by rw [e]; rfl⟩
  · exact ⟨b, .inr rfl, by rw [e]; rfl⟩
theorem b_things {N : Nat} {o : MO} (h : CartOk N o) (hN : N + 4 < 2 ^ 60) (r : Option Nat) (hr : ∀ n, r = some n → n < big) (x1 : S) (d4 : Option S) (xs : List S) (hx : xs.length < 9) :
    ∃ (k : Nat) (o' : MO), k < big ∧ CartOk (N + 4) o' ∧
      bo0__law_things [some (.r 0), some x1, some (.r 1), some (.v (rD r)), d4] [some o, some (.lst xs)] = .nx [some (.r 0), some x1, some (.r 1), none, none] [some o', some (.lst (xs ++ [.v (nD k)]))] := by
  obtain ⟨r1, o1, a1, a2, a3⟩ := pullB h (by omega) 4 (by decide) (by decide)
  obtain ⟨r2, o2, b1, b2, b3⟩ := pullB a2 (by omega) B12 (by decide) B12_le
  obtain ⟨r3, o3, c1, c2, c3⟩ := pullB b2 (by omega) 5 (by decide) (by decide)
  obtain ⟨r4, o4, d1, d2, d3⟩ := pullB c2 (by omega) 4 (by decide) (by decide)
  have i : ∃ k : Nat, k < big ∧ ixD (.lst [.int 0, .int 0, .int 1, nD r1, nD r2]) (nD r3) = some (nD k) := by
    have : r3 = 0 ∨ r3 = 1 ∨ r3 = 2 ∨ r3 = 3 ∨ r3 = 4 := by omega
    rcases this with e | e | e | e | e
    · exact ⟨0, by decide, by rw [e]; rfl⟩
    · exact ⟨0, by decide, by rw [e]; rfl⟩
    · exact ⟨1, by decide, by rw [e]; rfl⟩
    · exact ⟨r1, Nat.lt_of_lt_of_le a1 (by decide), by rw [e]; rfl⟩
    · exact ⟨r2, b1, by rw [e]; rfl⟩
  obtain ⟨k, k1, k2⟩ := i
  have s1 : st1__law_things [some (.r 0), some x1, some (.r 1), some (.v (rD r)), d4] [some o, some (.lst xs)] = .nx [some (.r 0), some x1, some (.r 1), some (.v (rD r)), some (.v (nD k))] [some o3, some (.lst xs)] :=
    s_set (e_ixD (e_fz (e_lst (e_cons rfl (e_cons rfl (e_cons rfl (e_two (e_call (e_two rfl rfl) (a3 _)) (e_call (e_two rfl (e_opD rfl rfl p12)) (b3 _)))))) rfl (by simp))) (e_call (e_two rfl rfl) (c3 _)) k2)
  have hx2 : xs.length < 16777216 := by omega
  cases r with
  | none =>
    refine ⟨k, o3, k1, c2.mono (by omega), s_kill (s_seq s1 (s_seq (s_ifF (t_test rfl) rfl) (s_ex (s := .v .non) (e_meL rfl rfl (e_one rfl) (app1 hx2)))))⟩
  | some n =>
    obtain ⟨k', e1, e2⟩ := two_at (a := min n k) (b := n) d1
    have hn := hr n rfl
    refine ⟨k', o4, by rcases e1 with e | e <;> rw [e] <;> omega, d2.mono (by omega), s_kill (s_seq s1 (s_seq (s_ifT (t_test rfl) (s_set (e_ixD (e_fz (e_lst (ds := [nD (min n k), nD n]) (e_two (e_call (e_two rfl rfl) (r := .ok (.v (nD (min n k))) [some o3, some (.lst xs)]) ?_) rfl) rfl (by simp))) (e_opD (e_call (e_two rfl rfl) (d3 _)) rfl (third d1)) e2))) (s_ex (s := .v .non) (e_meL rfl rfl (e_one rfl) (app1 hx2)))))⟩
    show onL minL [.v (nD k), .v (nD n)] _ = _
    simp only [onL, frzS, min_n, eD]
def thingsJ (x1 : S) (N : Nat) : Nat → Rho → Mh → Prop := fun k ρ M => ∃ (ns : List Nat) (o' : MO) (a b : Option S), ns.length = k ∧ (∀ n ∈ ns, n < big) ∧ CartOk (N + 4 * k) o' ∧
    ρ = [some (.r 0), some x1, some (.r 1), a, b] ∧ M = [some o', some (.lst ((ns.map nD).map .v))]
theorem p_things {N : Nat} {o : MO} (h : CartOk N o) (hN : N + 40 < 2 ^ 60) {rs : List (Option Nat)} (hr : okR rs) :
    ∃ (ns : List Nat) (o' : MO), okN ns ∧ ns.length = rs.length ∧ CartOk (N + 40) o' ∧ m__law_things [.r 0, .v (eR rs)] [some o] = .ok (.v (eL ns)) [some o'] := by
  obtain ⟨ρ', M', z1, ns, o', da, db, e1, e2, e3, rfl, rfl⟩ := f_inv (g := gN 3) (b := bo0__law_things) (thingsJ (.v (eR rs)) N) (ds := rs.map rD) (k := 0) (ρ := [some (.r 0), some (.v (eR rs)), some (.r 1), none, none]) (M := [some o, some (.lst [])])
    ⟨[], o, none, none, rfl, fun k z => (by cases z), h, rfl, rfl⟩ fun i d ρ M hi hJ => by
      obtain ⟨ns, o', da, db, e1, e2, e3, rfl, rfl⟩ := hJ
      rw [List.getElem?_map] at hi
      cases hg : rs[i]? with
      | none =>
        rw [hg] at hi
        cases hi
      | some r =>
        rw [hg] at hi
        cases hi
        have hl := (List.getElem?_eq_some_iff.mp hg).1
        have h9 := hr.2.1
        obtain ⟨k, o'', g1, g2, g3⟩ := b_things e3 (by omega) r (fun n z => hr.2.2 n (by rw [← z]; exact List.mem_of_getElem? hg)) (.v (eR rs)) db ((ns.map nD).map .v) (by simp; omega)
        refine ⟨_, _, _, rfl, g3, ns ++ [k], o'', none, none, by simp [e1], fun n z => ?_, g2.mono (by omega), rfl, by simp⟩
        rcases List.mem_append.mp z with z | z
        · exact e2 n z
        · rw [List.mem_singleton.mp z]
          exact g1
  have hl : ns.length = rs.length := by rw [e1]; simp
  have h9 := hr.2.1
  refine ⟨ns, o', ⟨by omega, e2⟩, hl, e3.mono (by simp; omega), (run_eq ⟨rfl, rfl⟩).trans ?_⟩
  have all : sm__law_things [some (.r 0), some (.v (eR rs)), none, none, none] [some o] = .rt (.v (eL ns)) [some o', some (.lst ((ns.map nD).map .v))] := by
    refine s_seq (s_set (e_own (e_lst rfl rfl (by decide)))) (s_seq (s_for rfl z1) (s_ret (e_call (e_one rfl) ?_)))
    show tupS [.r 1] _ = _
    simp only [tupS, seqS, frz_vs]
    rfl
  show xtF 1 (sm__law_things [some (.r 0), some (.v (eR rs)), none, none, none] [some o]) = _
  rw [all]
  simp [xtF, flatM, e3.flat]
/-! ## some places -/
def someJ (s N : Nat) : List D → Mh → Prop := fun acc M => ∃ (ls res : List Nat) (o' : MO), acc = res.map nD ∧ M = [some o', some (.lst ((ls.map nD).map .v))] ∧ (res ++ ls).Nodup ∧ (∀ n ∈ res ++ ls, n < 9) ∧ ls.length + res.length = s ∧ CartOk (N + res.length) o'
theorem rng_nD (s : Nat) : rngD 0 s = (List.range s).map nD := by
  unfold rngD nD
  simp
theorem er_map {α β : Type} (f : α → β) : ∀ (l : List α) (r : Nat), (l.map f).eraseIdx r = (l.eraseIdx r).map f
  | [], _ => rfl
  | _ :: _, 0 => rfl
  | a :: l, r + 1 => by simp [er_map f l r]
theorem perm_erase {α : Type} : ∀ {l : List α} {r : Nat} {x : α}, l[r]? = some x → l.Perm (x :: l.eraseIdx r)
  | [], r, x, h => by simp at h
  | a :: l, 0, x, h => by
    simp at h
    subst h
    exact .refl _
  | a :: l, r + 1, x, h => by
    have h2 : l[r]? = some x := by simpa using h
    exact ((perm_erase h2).cons a).trans (.swap x a _)
theorem p_some {N : Nat} {o : MO} (h : CartOk N o) (hN : N + 12 < 2 ^ 60) {s : Nat} (h1 : 1 ≤ s) (h9 : s ≤ 9) :
    ∃ (ns : List Nat) (o' : MO), okP ns ∧ CartOk (N + 12) o' ∧ m__law_some [.r 0, .v (nD s)] [some o] = .ok (.v (eL ns)) [some o'] := by
  obtain ⟨r1, o1, a1, a2, a3⟩ := pullB h (by omega) 4 (by decide) (by decide)
  obtain ⟨x, x1, x2⟩ := two_at (a := min s 3) (b := s) a1
  have hx : x ≤ s := by rcases x1 with e | e <;> omega
  obtain ⟨many, o2, b1, b2, b3⟩ := pullB a2 (by omega) (1 + x) (by omega) (Nat.le_trans (show 1 + x ≤ 10 by omega) (by decide))
  have w : addD (.int 1) (nD x) = some (.int ((1 + x : Nat) : Int)) := by simp [addD, nD]
  have s0 : st0__law_some [some (.r 0), some (.v (nD s)), none, none, none] [some o] = .nx [some (.r 0), some (.v (nD s)), some (.r 1), none, none] [some o, some (.lst (((List.range s).map nD).map .v))] := by
    have q : eLRg1 (eName 1) [some (.r 0), some (.v (nD s)), none, none, none] [some o] = .ok ((List.range s).map nD) [some o] := by
     refine e_bind (a := .v (nD s)) rfl ?_
     have g : -4294967296 ≤ (s : Int) ∧ (s : Int) ≤ 16777216 := by omega
     show (if -4294967296 ≤ (s : Int) ∧ (s : Int) ≤ 16777216 then er (rngD 0 ((s : Int) - 0).toNat) else eX) _ _ = _
     rw [if_pos g, show ((s : Int) - 0).toNat = s by omega, rng_nD]
     rfl
    exact s_set (e_own q)
  let L : Mh → Mh := fun _ => [some o2, some (.lst (((List.range s).map nD).map .v))]
  have s1 : st1__law_some [some (.r 0), some (.v (nD s)), some (.r 1), none, none] [some o, some (.lst (((List.range s).map nD).map .v))] = .nx [some (.r 0), some (.v (nD s)), some (.r 1), some (.v (nD many)), none] [some o2, some (.lst (((List.range s).map nD).map .v))] := by
    refine s_set (e_call (e_two rfl (e_opD rfl (e_ixD (e_fz (e_lst (ds := [nD (min s 3), nD s]) (e_two (e_call (e_two rfl rfl) (r := .ok (.v (nD (min s 3))) [some o, some (.lst (((List.range s).map nD).map .v))]) ?_) rfl) rfl (by simp))) (e_opD (e_call (e_two rfl rfl) (a3 _)) rfl (third a1)) x2) w)) (b3 _))
    show onL minL [.v (nD 3), .v (nD s)] _ = _
    simp only [onL, frzS, min_n, eD]
  obtain ⟨ys, M', c1, c2, ls, res, o', d1, d2, d3, d4, d5, d6⟩ := c_inv (ρ := [some (.r 0), some (.v (nD s)), some (.r 1), some (.v (nD many)), none]) (g := gN 4) (t := eYes) (e := eMeL (onLs popF) (eName 2) (eCons (eCall (gB m__law_pull) (eCons (eName 0) (eCons (eCall (lenS) (eCons (eName 2) eNil)) eNil))) eNil)) (someJ s (N + 2)) (ds := rngD 0 many) (acc := []) (M := [some o2, some (.lst (((List.range s).map nD).map .v))])
    ⟨List.range s, [], o2, rfl, rfl, by simpa using List.nodup_range, fun n hn => by simp at hn; omega, by simp, b2⟩ fun i acc d M hi hl hJ => by
      obtain ⟨ls, res, o', rfl, rfl, e3, e4, e5, e6⟩ := hJ
      obtain ⟨l, _⟩ := rngD_at hi
      have hlen : res.length = i := by simpa using hl
      obtain ⟨r, o'', g1, g2, g3⟩ := pullB e6 (by omega) ls.length (by omega) (Nat.le_trans (show ls.length ≤ 9 by omega) (by decide))
      have hg : ls[r]? = some ls[r] := List.getElem?_eq_getElem g1
      have hlen2 : ls.length ≤ 16777216 := by omega
      have pm : ((res ++ [ls[r]]) ++ ls.eraseIdx r).Perm (res ++ ls) := by
        rw [List.append_assoc]
        exact (List.Perm.append_left res (perm_erase hg).symm)
      refine ⟨_, nD ls[r], [some o'', some (.lst (((ls.eraseIdx r).map nD).map .v))], rfl, rfl, ?_, ls.eraseIdx r, res ++ [ls[r]], o'', by simp, rfl, ?_, fun n hn => e4 n (pm.mem_iff.mp hn), ?_, g2.mono (by simp; omega)⟩
      · refine e_meL rfl rfl (e_one (e_call (e_two rfl (e_call (e_one rfl) (r := .ok (.v (nD ls.length)) [some o', some (.lst ((ls.map nD).map .v))]) ?_)) (g3 _))) ?_
        · show lenS [.r 1] _ = _
          simp only [lenS, seqS, frz_vs]
          simp [nD]
        · have p : popF ((ls.map nD).map .v) [.v (nD r)] = some (.v (nD ls[r]), ((ls.eraseIdx r).map nD).map .v) := by
            have q : ((ls.map nD).map S.v)[r]? = some (.v (nD ls[r])) := by simp [g1]
            have q2 : ((ls.map nD).map S.v).eraseIdx r = ((ls.eraseIdx r).map nD).map .v := by rw [er_map, er_map]
            simp only [popF, nD, Int.toNat_natCast]
            rw [if_pos (by simp; omega)]
            simp only [nD] at q q2
            rw [q]
            simp only [q2]
          show onLs popF (.r 1) [.v (nD r)] [some o'', some (.lst ((ls.map nD).map .v))] = _
          have l1 : lsM (.r 1) [some o'', some (.lst ((ls.map nD).map .v))] = some (1, (ls.map nD).map .v) := rfl
          simp only [onLs, l1, p]
          rfl
      · exact pm.nodup_iff.mpr e3
      · rw [List.length_eraseIdx, if_pos g1]
        simp
        omega
  subst d2
  have ey : ys = res.map nD := by simpa using d1
  subst ey
  have hlr : res.length = many := by simpa [len_rngD] using c2
  have nd : res.Nodup := (List.nodup_append.mp d3).1
  refine ⟨res, o', ⟨by omega, nd, fun n hn => d4 n (List.mem_append_left _ hn)⟩, d6.mono (by omega), (run_eq ⟨rfl, rfl⟩).trans ?_⟩
  have lc : lc0__law_some [some (.r 0), some (.v (nD s)), some (.r 1), some (.v (nD many)), none] [some o2, some (.lst (((List.range s).map nD).map .v))] = .ok (res.map nD) [some o', some (.lst ((ls.map nD).map .v))] :=
    e_lc (it_rng1 (e_one rfl) (by omega)) (by rw [len_rngD]; omega) c1
  have all : sm__law_some [some (.r 0), some (.v (nD s)), none, none, none] [some o] = .rt (.v (eL res)) [some o', some (.lst ((ls.map nD).map .v))] :=
    s_seq s0 (s_seq s1 (s_ret (e_call (e_one (e_fz lc)) rfl)))
  show xtF 1 (sm__law_some [some (.r 0), some (.v (nD s)), none, none, none] [some o]) = _
  rw [all]
  simp [xtF, flatM, d6.flat]
theorem someB {N : Nat} {o : MO} (h : CartOk N o) (hN : N + 12 < 2 ^ 60) {s : Nat} (h1 : 1 ≤ s) (h9 : s ≤ 9) :
    ∃ (ns : List Nat) (o' : MO), okP ns ∧ CartOk (N + 12) o' ∧ ∀ M, gB m__law_some [.r 0, .v (nD s)] (some o :: M) = .ok (.v (eL ns)) (some o' :: M) := by
  obtain ⟨ns, o', a, b, c⟩ := p_some h hN h1 h9
  exact ⟨ns, o', a, b, fun M => gB_of c h.flat b.flat rfl M⟩
/-! ## asks -/
def asksJ (N : Nat) : List D → Mh → Prop := fun acc M => ∃ (as : List (List Nat × List Nat)) (o' : MO), acc = as.map eA ∧ M = [some o'] ∧ (∀ a ∈ as, okP a.1 ∧ okP a.2) ∧ CartOk (N + 24 * as.length) o'
theorem p_asks {N : Nat} {o : MO} (h : CartOk N o) (hN : N + 2000 < 2 ^ 60) {s m : Nat} (h1 : 1 ≤ s) (h9 : s ≤ 9) (hm : m ≤ 60) :
    ∃ (as : List (List Nat × List Nat)) (o' : MO), okD as ∧ CartOk (N + 2000) o' ∧ m__law_asks [.r 0, .v (nD s), .v (nD m)] [some o] = .ok (.v (eDy as)) [some o'] := by
  obtain ⟨n, o1, a1, a2, a3⟩ := pullB h (by omega) (m + 1) (by omega) (Nat.le_trans (show m + 1 ≤ 61 by omega) (by decide))
  have w : addD (nD m) (.int 1) = some (.int ((m + 1 : Nat) : Int)) := by simp [addD, nD]
  obtain ⟨ys, M', c1, c2, as, o', d1, rfl, d3, d4⟩ := c_inv (ρ := [some (.r 0), some (.v (nD s)), some (.v (nD m)), none]) (g := gN 3) (t := eYes) (e := eTup (eCons (eCall (gB m__law_some) (eCons (eName 0) (eCons (eName 1) eNil))) (eCons (eCall (gB m__law_some) (eCons (eName 0) (eCons (eName 1) eNil))) eNil))) (asksJ (N + 1)) (ds := rngD 0 n) (acc := []) (M := [some o1])
    ⟨[], o1, rfl, rfl, fun a ha => (by cases ha), a2⟩ fun i acc d M hi hl hJ => by
      obtain ⟨as, o', rfl, rfl, e3, e4⟩ := hJ
      obtain ⟨l, _⟩ := rngD_at hi
      have hlen : as.length = i := by simpa using hl
      obtain ⟨w1, o2, f1, f2, f3⟩ := someB e4 (by omega) h1 h9
      obtain ⟨w2, o3, g1, g2, g3⟩ := someB f2 (by omega) h1 h9
      refine ⟨_, eA (w1, w2), [some o3], rfl, rfl, e_tup (e_two (e_call (e_two rfl rfl) (f3 [])) (e_call (e_two rfl rfl) (g3 []))) rfl (by simp), as ++ [(w1, w2)], o3, by simp, rfl, fun a ha => ?_, g2.mono (by simp; omega)⟩
      rcases List.mem_append.mp ha with ha | ha
      · exact e3 a ha
      · rw [List.mem_singleton.mp ha]
        exact ⟨f1, g1⟩
  have ey : ys = as.map eA := by simpa using d1
  subst ey
  have hl : as.length = n := by simpa [len_rngD] using c2
  refine ⟨as, o', ⟨by omega, d3⟩, d4.mono (by omega), (run_eq ⟨rfl, rfl⟩).trans ?_⟩
  have lc : lc0__law_asks [some (.r 0), some (.v (nD s)), some (.v (nD m)), none] [some o] = .ok (as.map eA) [some o'] :=
    e_lc (it_rng1 (e_one (e_call (e_two rfl (e_opD rfl rfl w)) (a3 []))) (by omega)) (by rw [len_rngD]; omega) c1
  have all : sm__law_asks [some (.r 0), some (.v (nD s)), some (.v (nD m)), none] [some o] = .rt (.v (eDy as)) [some o'] := s_ret (e_fz lc)
  show xtF 1 (sm__law_asks [some (.r 0), some (.v (nD s)), some (.v (nD m)), none] [some o]) = _
  rw [all]
  simp [xtF, flatM, d4.flat]
/-! ## what is made -/
def eM (rs : List (Option Nat)) (ns : List Nat) (as : List (List Nat × List Nat)) : D := .lst [eR rs, eL ns, eDy as]
def okM (rs : List (Option Nat)) (ns : List Nat) (as : List (List Nat × List Nat)) : Prop := okR rs ∧ okN ns ∧ 1 ≤ ns.length ∧ okD as
theorem p_made {N : Nat} {o : MO} (h : CartOk N o) (hN : N + 3000 < 2 ^ 60) :
    ∃ rs ns as o', okM rs ns as ∧ CartOk (N + 3000) o' ∧ m__law_made [.r 0] [some o] = .ok (.v (eM rs ns as)) [some o'] := by
  obtain ⟨rs, o1, a1, a2, a3⟩ := p_rooms h (by omega)
  obtain ⟨ns, o2, b1, b2, b3, b4⟩ := p_things a2 (by omega) a1
  obtain ⟨r, o3, c1, c2, c3⟩ := pullB b3 (by omega) 2 (by decide) (by decide)
  have i : ∃ m, m ≤ 60 ∧ ixD (.lst [.int 2, .int 60]) (nD r) = some (nD m) := by
    have : r = 0 ∨ r = 1 := by omega
    rcases this with e | e
    · exact ⟨2, by decide, by rw [e]; rfl⟩
    · exact ⟨60, by decide, by rw [e]; rfl⟩
  obtain ⟨m, m1, m2⟩ := i
  have g1 := a1.1
  have g9 := a1.2.1
  obtain ⟨as, o4, d1, d2, d3⟩ := p_asks c2 (by omega) g1 g9 m1
  have A3 := gB_of a3 h.flat a2.flat rfl []
  have B4 := gB_of b4 a2.flat b3.flat rfl []
  have D3 := gB_of d3 c2.flat d2.flat rfl []
  refine ⟨rs, ns, as, o4, ⟨a1, b1, by omega, d1⟩, d2.mono (by omega), (run_eq ⟨rfl, rfl⟩).trans ?_⟩
  have len : lenS [.v (eR rs)] [some o2] = .ok (.v (nD rs.length)) [some o2] := by
    simp [lenS, eR, seqS, nD]
  have all : sm__law_made [some (.r 0), none] [some o] = .rt (.v (eM rs ns as)) [some o4] :=
    s_seq (s_set (e_call (e_two rfl rfl) A3)) (s_ret (e_fz (e_lst (e_cons rfl (e_two (e_call (e_two rfl rfl) B4) (e_call (e_cons rfl (e_two (e_call (e_one rfl) len) (e_ixD (e_fz (e_lst (e_two rfl rfl) rfl (by decide))) (e_call (e_two rfl rfl) (c3 [])) m2))) D3))) rfl (by simp))))
  show xtF 1 (sm__law_made [some (.r 0), none] [some o]) = _
  rw [all]
  simp [xtF, flatM, d2.flat]
theorem madeB {N : Nat} {o : MO} (h : CartOk N o) (hN : N + 3000 < 2 ^ 60) :
    ∃ rs ns as o', okM rs ns as ∧ CartOk (N + 3000) o' ∧ ∀ M, gB m__law_made [.r 0] (some o :: M) = .ok (.v (eM rs ns as)) (some o' :: M) := by
  obtain ⟨rs, ns, as, o', a, b, c⟩ := p_made h hN
  exact ⟨rs, ns, as, o', a, b, fun M => gB_of c h.flat b.flat rfl M⟩
/-! ## the cart -/
theorem p_cart (zs : List Int) (k : Nat) (hk : k < 100) : ∃ o, CartOk 0 o ∧ m__law_cart [.v (.lst (zs.map .int)), .v (nD k)] [] = .ok (.r 0) [some o] := by
  have fin : ∀ cell : Int, ∃ o, CartOk 0 o ∧ st3__law_cart [some (.v (.lst (zs.map .int))), some (.v (nD k)), some (.v (.int cell))] [] = .rt (.r 0) [some o] := fun cell => by
    have q := T37_0
    have y1 := Int.emod_nonneg cell (by omega : T37 + 43 ≠ 0)
    have y2 := Int.emod_lt_of_pos cell q.1
    generalize hy : cell % (T37 + 43) = y at y1 y2
    have e1 : modD (.int cell) (.int (T37 + 43)) = some (.int y) := by rw [modD_of q.1, hy]
    have m1 : mulOk 11587 (k : Int) = true := mul_ok (by decide) (by decide +kernel) (by omega) (by omega)
    obtain ⟨A, hA⟩ : ∃ A, absL [.int cell] = some (.int A) := ⟨_, rfl⟩
    obtain ⟨Mx, hM⟩ : ∃ Mx, maxL [.int 0, .int (A - T18)] = some (.int Mx) := ⟨_, rfl⟩
    have b1 : 0 ≤ y + 11587 * (k : Int) := by omega
    have b2 : y + 11587 * (k : Int) < 2 ^ 150 := by
      have h140 : (2 : Int) ^ 140 + 11587 * 100 < 2 ^ 150 := by decide +kernel
      omega
    refine ⟨cartL Mx (y + 11587 * (k : Int)) 0, ⟨_, _, _, rfl, b1, b2, by omega, by omega⟩, s_ret (e_own (M1 := []) (e_lst (ds := [.int Mx, .int (y + 11587 * (k : Int)), .int 0]) (e_cons (e_call (e_two rfl (e_opD (e_call (e_one rfl) (r := .ok (.v (.int A)) []) ?_) (e_opD rfl rfl p18) rfl)) (r := .ok (.v (.int Mx)) []) ?_) (e_two (e_opD (e_opD rfl (e_opD (e_opD rfl rfl p37) rfl rfl) e1) (e_opD rfl rfl (mulD_of m1)) rfl) rfl)) rfl (by simp)))⟩
    · show onL absL [.v (.int cell)] [] = _
      simp only [onL, frzS, hA, eD]
    · show onL maxL [.v (.int 0), .v (.int (A - T18))] [] = _
      simp only [onL, frzS, hM, eD]
  have len : lenS [.v (.lst (zs.map .int))] [] = .ok (.v (nD zs.length)) [] := by
    simp [lenS, seqS, lstS, nD]
  have go : ∃ cell : Int, st2__law_cart [some (.v (.lst (zs.map .int))), some (.v (nD k)), some (.v (.int 0))] [] = .nx [some (.v (.lst (zs.map .int))), some (.v (nD k)), some (.v (.int cell))] [] := by
    by_cases h : k < zs.length
    · have t : ltD (nD k) (nD zs.length) = some (.bl true) := by
        unfold ltD cmpD nD
        simp [h]
      have g : ixD (.lst (zs.map .int)) (nD k) = some (.int zs[k]) := by
        unfold ixD nD getI
        simp [h]
      exact ⟨zs[k], s_ifT (t_test (e_opD rfl (e_call (e_one rfl) len) t)) (s_set (e_ixD rfl rfl g))⟩
    · have t : ltD (nD k) (nD zs.length) = some (.bl false) := by
        unfold ltD cmpD nD
        simp [h]
      exact ⟨0, s_ifF (t_test (e_opD rfl (e_call (e_one rfl) len) t)) rfl⟩
  obtain ⟨cell, g1⟩ := go
  obtain ⟨o, o1, o2⟩ := fin cell
  refine ⟨o, o1, (run_eq ⟨rfl, rfl⟩).trans ?_⟩
  have all : sm__law_cart [some (.v (.lst (zs.map .int))), some (.v (nD k)), none] [] = .rt (.r 0) [some o] := s_seq (s_set rfl) (s_seq g1 o2)
  show xtO 0 (sm__law_cart [some (.v (.lst (zs.map .int))), some (.v (nD k)), none] []) = _
  rw [all]
  simp [xtO, flatM, o1.flat]
end K45
end
section
namespace K45
theorem gBr_of {m : Md.Mf} {ss : List Md.S} {M : Md.Mh} {ds : List Md.D} {d : Md.D} (h1 : Md.rdL (Md.rdS 4 M) ss = some ds) (h : m (ds.map .v) [] = .ok (.v d) []) (v : Md.scD d = true) : Md.gBr m ss M = .ok (.v d) M := by
  simp only [Md.gBr, h1, h, v]
  rfl
open PySem PySem.Spec PyProof.Rows L2 Md
/-! ## pieces put together -/
theorem join_snoc (b : Str) (ys : List Str) (y : Str) : Txt.join b (ys ++ [y]) = Txt.join b ys ++ (if ys = [] then ("" : Str) else b) ++ y := by
  refine TL.ext_tl ?_
  rw [TL.join_eq, TL.join_eq, TL.tl_join, TL.tl_append, TL.tl_append, TL.tl_join]
  induction ys with
  | nil =>
    rw [if_pos rfl, tl_e]
    rfl
  | cons z zs ih =>
    rw [if_neg (by simp)]
    cases zs with
    | nil =>
      rw [if_pos rfl, tl_e] at ih
      simp [TL.joinL]
    | cons w ws =>
      rw [if_neg (by simp)] at ih
      simp only [List.cons_append, List.map_cons, TL.joinL] at ih ⊢
      rw [ih]
      simp [List.append_assoc]
def putJ (ws : List Str) (b : Str) : Nat → Rho → Mh → Prop := fun k ρ M => ∃ d, ρ = [some (.v (.lst (ws.map .str))), some (.v (.str b)), some (.v (.str (Txt.join b (ws.take k)))), d] ∧ M = []
theorem p_put {ws : List Str} {b : Str} (hw : ws.length ≤ 100) (hk : ∀ y ∈ ws, y.length ≤ 300) (hb : b.length ≤ 1) : m__law_put_by [.v (.lst (ws.map .str)), .v (.str b)] [] = .ok (.v (.str (Txt.join b ws))) [] := by
  have len : lenS [.v (.lst (ws.map .str))] [] = .ok (.v (.int ((ws.length : Nat) : Int))) [] := by
    simp [lenS, seqS, lstS]
  obtain ⟨ρ', M', z1, d, rfl, rfl⟩ := f_inv (g := gN 3) (b := bo0__law_put_by) (putJ ws b) (ds := rngD 0 ws.length) (k := 0) (ρ := [some (.v (.lst (ws.map .str))), some (.v (.str b)), some (.v (.str "")), none]) (M := [])
    ⟨none, rfl, rfl⟩ fun i d ρ M hi hJ => by
      obtain ⟨d', rfl, rfl⟩ := hJ
      obtain ⟨l, rfl⟩ := rngD_at hi
      rw [Nat.zero_add] at *
      have lj := len_join b (ws.take i) 300 fun y hy => hk y (List.mem_of_mem_take hy)
      have lt : (ws.take i).length = i := by simp; omega
      rw [lt] at lj
      have lj2 : i * (300 + b.length) ≤ 100 * 301 := Nat.mul_le_mul (by omega) (by omega)
      have ly := hk ws[i] (List.getElem_mem l)
      have mn : minL [.int (i : Int), .int 1] = some (nD (min i 1)) := by
        have := min_n i 1
        rw [Nat.min_comm] at this
        exact this
      obtain ⟨g, g1, g2, g3⟩ : ∃ g : Str, g.length ≤ 1 ∧ ixD (.lst [.str "", .str b]) (nD (min i 1)) = some (.str g) ∧ Txt.join b (ws.take (i + 1)) = Txt.join b (ws.take i) ++ g ++ ws[i] := by
        have e : ws.take (i + 1) = ws.take i ++ [ws[i]] := by rw [List.take_add_one, List.getElem?_eq_getElem l]; rfl
        by_cases h0 : i = 0
        · subst h0
          exact ⟨"", by decide, rfl, by rw [e, join_snoc, if_pos (by simp)]⟩
        · have : min i 1 = 1 := by omega
          rw [this]
          exact ⟨b, hb, rfl, by rw [e, join_snoc, if_neg (by intro z; rw [z] at lt; simp at lt; omega)]⟩
      have a1 : addD (.str (Txt.join b (ws.take i))) (.str g) = some (.str (Txt.join b (ws.take i) ++ g)) := by
        simp only [addD]
        rw [if_pos (by omega)]
      have a2 : addD (.str (Txt.join b (ws.take i) ++ g)) (.str ws[i]) = some (.str (Txt.join b (ws.take (i + 1)))) := by
        simp only [addD]
        rw [if_pos (by rw [len_app]; omega), g3]
      have gx : ixD (.lst (ws.map .str)) (.int (i : Int)) = some (.str ws[i]) := by
        unfold ixD getI
        simp [l]
      refine ⟨_, _, [], rfl, s_kill (s_set (e_opD (e_opD rfl (e_ixD (e_fz (e_lst rfl rfl (by simp))) (e_call (e_two rfl rfl) (r := .ok (.v (nD (min i 1))) []) ?_) g2) a1) (e_ixD rfl rfl gx) a2)), none, rfl, rfl⟩
      show onL minL [.v (.int (i : Int)), .v (.int 1)] [] = _
      simp only [onL, frzS, mn, eD]
  refine (run_eq ⟨rfl, rfl⟩).trans ?_
  have all : sm__law_put_by [some (.v (.lst (ws.map .str))), some (.v (.str b)), none, none] [] = .rt (.v (.str (Txt.join b ws))) [] := by
    rw [len_rngD, Nat.zero_add, List.take_length] at z1
    exact s_seq (s_set rfl) (s_seq (s_for (it_rng1 (e_one (e_call (e_one rfl) len)) (by omega)) z1) (s_ret rfl))
  show xtF 0 (sm__law_put_by [some (.v (.lst (ws.map .str))), some (.v (.str b)), none, none] []) = _
  rw [all]
  rfl
/-! ## the writings made beside -/
theorem len_nS' {n : Nat} (h : n < big) : (nS n).length ≤ 300 := Nat.le_trans (len_nS h) (by decide)
theorem putB {ws : List Str} {b : Str} (hw : ws.length ≤ 100) (hk : ∀ y ∈ ws, y.length ≤ 300) (hb : b.length ≤ 1) (M : Mh) : gP m__law_put_by [.v (.lst (ws.map .str)), .v (.str b)] M = .ok (.v (.str (Txt.join b ws))) M := gP_of (p_put hw hk hb) rfl M
theorem put_L {ns : List Nat} (h : okN ns) (M : Mh) : gP m__law_put_by [.v (.lst (ns.map fun n => .str (nS n))), .v (.str " ")] M = .ok (.v (.str (shL ns))) M := by
  have p := putB (ws := ns.map nS) (b := " ") (by rw [List.length_map]; have := h.1; omega) (fun y hy => by
    obtain ⟨n, hn, rfl⟩ := List.mem_map.mp hy
    exact len_nS' (h.2 n hn)) (by decide) M
  rw [List.map_map] at p
  exact p
theorem put_R {rs : List (Option Nat)} (h : okR rs) (M : Mh) : gP m__law_put_by [.v (.lst (rs.map fun n => .str (rS n))), .v (.str " ")] M = .ok (.v (.str (shR rs))) M := by
  have p := putB (ws := rs.map rS) (b := " ") (by rw [List.length_map]; have := h.2.1; omega) (fun y hy => by
    obtain ⟨n, hn, rfl⟩ := List.mem_map.mp hy
    cases n with
    | none => decide
    | some n => exact len_nS' (h.2.2 n hn)) (by decide) M
  rw [List.map_map] at p
  exact p
theorem str_of {n : Nat} (h : n < big) (M : Mh) : onL strL2 [.v (nD n)] M = .ok (.v (.str (nS n))) M := by
  simp only [onL, frzS, nD, nS_str h, eD]
def dueD (rs : List (Option Nat)) (ns : List Nat) (as : List (List Nat × List Nat)) : D := .lst [.str (shR rs), .str (shL ns), .str (shD as)]
def txR (rs : List (Option Nat)) (ns : List Nat) (as : List (List Nat × List Nat)) (a b c : Option S) : Rho := [some (.v (eR rs)), some (.v (eL ns)), some (.v (eDy as)), a, b, c, none, none, none, none, none, none, none]
theorem c0_texts {rs : List (Option Nat)} (h : okR rs) (ns : List Nat) (as : List (List Nat × List Nat)) : lc0__law_texts (txR rs ns as none none none) [] = .ok (rs.map fun n => .str (rS n)) [] :=
  eLc_map rs rfl (Nat.le_trans h.2.1 (by decide)) fun r hr => by
    cases r with
    | none => exact ⟨_, rfl, rfl, e_ixD (e_fz (e_lst (ds := [.str "-", .str "None"]) (e_two rfl (e_call (e_one rfl) rfl)) rfl (by simp))) (e_call (e_one (e_op2 rfl rfl rfl)) rfl) rfl⟩
    | some n => exact ⟨_, rfl, rfl, e_ixD (e_fz (e_lst (ds := [.str "-", .str (nS n)]) (e_two rfl (e_call (e_one rfl) (str_of (h.2.2 n hr) []))) rfl (by simp))) (e_call (e_one (e_op2 rfl rfl rfl)) rfl) rfl⟩
theorem c1_texts {ns : List Nat} (h : okN ns) (rs : List (Option Nat)) (as : List (List Nat × List Nat)) (a : Option S) : lc1__law_texts (txR rs ns as a none none) [] = .ok (ns.map fun n => .str (nS n)) [] :=
  eLc_map (enc := nD) ns rfl (Nat.le_trans h.1 (by decide)) fun n hn => ⟨_, rfl, rfl, e_call (e_one rfl) (str_of (h.2 n hn) [])⟩
def textsJ (rs : List (Option Nat)) (ns : List Nat) (as : List (List Nat × List Nat)) : Nat → Rho → Mh → Prop := fun k ρ M =>
  ρ = txR rs ns as (some (.v (.lst (rs.map fun n => .str (rS n))))) (some (.v (.lst [.str (shR rs), .str (shL ns)]))) (some (.r 0)) ∧ M = [some (.lst (((as.take k).map fun a => .str (shA a)).map .v))]
theorem b_texts {rs : List (Option Nat)} {ns : List Nat} {as : List (List Nat × List Nat)} (x3 x4 : Option S) (a : List Nat × List Nat) (ha : okP a.1 ∧ okP a.2) (xs : List S) (hx : xs.length < 100) :
    ∃ ρ1, gT 2 (gsC (gN 6) (gsC (gN 7) gsN)) (.v (eA a)) (txR rs ns as x3 x4 (some (.r 0))) [some (.lst xs)] = some ρ1 ∧
      bo0__law_texts ρ1 [some (.lst xs)] = .nx (txR rs ns as x3 x4 (some (.r 0))) [some (.lst (xs ++ [.v (.str (shA a))]))] := by
  refine ⟨[some (.v (eR rs)), some (.v (eL ns)), some (.v (eDy as)), x3, x4, some (.r 0), some (.v (eL a.1)), some (.v (eL a.2)), none, none, none, none, none], rfl, ?_⟩
  have c3 : lc3__law_texts [some (.v (eR rs)), some (.v (eL ns)), some (.v (eDy as)), x3, x4, some (.r 0), some (.v (eL a.1)), some (.v (eL a.2)), none, none, none, none, none] [some (.lst xs)] = .ok ([a.1, a.2].map fun n => .str (shL n)) [some (.lst xs)] :=
    eLc_map (enc := eL) [a.1, a.2] rfl (by simp) fun n hn => ⟨_, rfl, rfl, by
      have hk : okN n := by
        rcases List.mem_cons.mp hn with e | e
        · rw [e]; exact ha.1.okN
        · rw [List.mem_singleton.mp e]; exact ha.2.okN
      have c2 : lc2__law_texts [some (.v (eR rs)), some (.v (eL ns)), some (.v (eDy as)), x3, x4, some (.r 0), some (.v (eL a.1)), some (.v (eL a.2)), none, none, some (.v (eL n)), none, none] [some (.lst xs)] = .ok (n.map fun n => .str (nS n)) [some (.lst xs)] :=
        eLc_map (enc := nD) n rfl (Nat.le_trans hk.1 (by decide)) fun m hm => ⟨_, rfl, rfl, e_call (e_one rfl) (str_of (hk.2 m hm) _)⟩
      exact e_call (e_two (e_fz c2) rfl) (put_L hk _)⟩
  have l1 := len_shL ha.1.okN
  have l2 := len_shL ha.2.okN
  have l3 : (">" : Str).length = 1 := by decide
  have a1 : addD (.str (shL a.1)) (.str ">") = some (.str (shL a.1 ++ ">")) := by
    simp only [addD]
    rw [if_pos (by omega)]
  have a2 : addD (.str (shL a.1 ++ ">")) (.str (shL a.2)) = some (.str (shA a)) := by
    simp only [addD]
    rw [if_pos (by rw [len_app]; omega)]
    rfl
  have ap : onLs appF (.r 0) [.v (.str (shA a))] [some (.lst xs)] = .ok (.v .non) [some (.lst (xs ++ [.v (.str (shA a))]))] := by
    have : xs.length < 16777216 := by omega
    simp [onLs, lsM, appF, this]
  exact s_kill (s_seq (s_set (e_fz c3)) (s_ex (s := .v .non) (e_meL rfl rfl (e_one (e_opD (e_opD (e_ixD rfl rfl rfl) rfl a1) (e_ixD rfl rfl rfl) a2)) ap)))
theorem p_texts {rs : List (Option Nat)} {ns : List Nat} {as : List (List Nat × List Nat)} (h : okM rs ns as) : m__law_texts [.v (eR rs), .v (eL ns), .v (eDy as)] [] = .ok (.v (dueD rs ns as)) [] := by
  obtain ⟨hr, hn, h1, hd⟩ := h
  obtain ⟨ρ', M', z1, rfl, rfl⟩ := f_inv (g := gT 2 (gsC (gN 6) (gsC (gN 7) gsN))) (b := bo0__law_texts) (textsJ rs ns as) (ds := as.map eA) (k := 0) (ρ := txR rs ns as (some (.v (.lst (rs.map fun n => .str (rS n))))) (some (.v (.lst [.str (shR rs), .str (shL ns)]))) (some (.r 0))) (M := [some (.lst [])])
    ⟨rfl, rfl⟩ fun i d ρ M hi hJ => by
      obtain ⟨rfl, rfl⟩ := hJ
      rw [List.getElem?_map] at hi
      cases hg : as[i]? with
      | none =>
        rw [hg] at hi
        cases hi
      | some a =>
        rw [hg] at hi
        cases hi
        have hl := (List.getElem?_eq_some_iff.mp hg).1
        obtain ⟨ρ1, g1, g2⟩ := b_texts (rs := rs) (ns := ns) (as := as) (some (.v (.lst (rs.map fun n => .str (rS n))))) (some (.v (.lst [.str (shR rs), .str (shL ns)]))) a (hd.2 a (List.mem_of_getElem? hg)) (((as.take (0 + i)).map fun a => .str (shA a)).map .v) (by
          have := hd.1
          simp
          omega)
        refine ⟨ρ1, _, _, g1, g2, rfl, ?_⟩
        rw [Nat.zero_add, List.take_add_one, hg]
        simp
  rw [List.length_map, Nat.zero_add, List.take_length] at z1
  have rd : rdS 4 [some (MO.lst ((as.map fun a => D.str (shA a)).map .v))] (.r 0) = some (.lst (as.map fun a => .str (shA a))) := by
    have q : ∀ ds : List D, ∀ M, rdL (rdS 3 M) (ds.map .v) = some ds := fun ds M => by
      induction ds with
      | nil => rfl
      | cons x ds ih => simp [rdL, rdS, ih]
    show (match rdL (rdS 3 _) _ with
      | some ds => some (D.lst ds)
      | none => none) = _
    rw [q]
  have e5 : eOp2 (onR eqR) (eName 5) (eFz (eLst eNil)) (txR rs ns as (some (.v (.lst (rs.map fun n => .str (rS n))))) (some (.v (.lst [.str (shR rs), .str (shL ns)]))) (some (.r 0))) [some (MO.lst ((as.map fun a => D.str (shA a)).map .v))] = .ok (.v (.bl as.isEmpty)) [some (MO.lst ((as.map fun a => D.str (shA a)).map .v))] := by
    refine e_eqR rfl (e_fz (e_lst rfl rfl (by decide))) rd rfl ?_
    have gdd : gd 40 (.lst (as.map fun a => .str (shA a))) = true := by
      refine List.all_eq_true.mpr fun x hx => ?_
      obtain ⟨a, _, rfl⟩ := List.mem_map.mp hx
      exact rowA128 ((sg_shA a).imp fun c h => .inr h)
    unfold eqR
    rw [if_pos ⟨gdd, rfl⟩]
    cases as <;> rfl
  have last : eIf (eTest (eOp2 (onR eqR) (eName 5) (eFz (eLst eNil)))) (er (.v (.str "."))) (eCall (gBr m__law_put_by) (eCons (eName 5) (eCons (er (.v (.str ";"))) eNil))) (txR rs ns as (some (.v (.lst (rs.map fun n => .str (rS n))))) (some (.v (.lst [.str (shR rs), .str (shL ns)]))) (some (.r 0))) [some (MO.lst ((as.map fun a => D.str (shA a)).map .v))] = .ok (.v (.str (shD as))) [some (MO.lst ((as.map fun a => D.str (shA a)).map .v))] := by
    cases has : as with
    | nil =>
      rw [has] at e5
      exact e_ifT (t_test e5) rfl
    | cons a bs =>
      rw [← has]
      have e6 : as.isEmpty = false := by rw [has]; rfl
      rw [e6] at e5
      refine e_ifF (t_test e5) (e_call (e_two rfl rfl) ?_)
      have pp := p_put (ws := as.map shA) (b := ";") (by rw [List.length_map]; have := hd.1; omega) (fun y hy => by
        obtain ⟨x, hx, rfl⟩ := List.mem_map.mp hy
        exact Nat.le_trans (len_shA (hd.2 x hx)) (by decide)) (by decide)
      rw [List.map_map] at pp
      have pp2 : m__law_put_by [.v (.lst (as.map fun a => .str (shA a))), .v (.str ";")] [] = .ok (.v (.str (Txt.join ";" (as.map shA)))) [] := pp
      have sd : shD as = Txt.join ";" (as.map shA) := if_neg (by rw [has]; simp)
      rw [sd]
      have r1 : rdL (rdS 4 [some (MO.lst ((as.map fun a => D.str (shA a)).map .v))]) [.r 0, .v (.str ";")] = some [.lst (as.map fun a => .str (shA a)), .str ";"] := by
        simp only [rdL]
        rw [rd]
        rfl
      exact gBr_of r1 pp2 rfl
  refine (run_eq ⟨rfl, rfl⟩).trans ?_
  have all : sm__law_texts (txR rs ns as none none none) [] = .rt (.v (dueD rs ns as)) [some (MO.lst ((as.map fun a => D.str (shA a)).map .v))] := by
    refine s_seq (s_set (e_fz (c0_texts hr ns as))) (s_seq (s_set (e_fz (e_lst (ds := [.str (shR rs), .str (shL ns)]) (e_two (e_call (e_two rfl rfl) (put_R hr [])) (e_call (e_two (e_fz (c1_texts hn rs as _)) rfl) (put_L hn []))) rfl (by simp)))) (s_seq (s_set (e_own (e_lst rfl rfl (by decide)))) (s_seq (s_for rfl z1) (s_ret (e_fz (e_bind rfl (e_bind (e_fz (e_lst (ds := [.str (shD as)]) (e_one last) rfl (by simp))) ?_)))))))
    rfl
  show xtF 0 (sm__law_texts (txR rs ns as none none none) []) = _
  rw [all]
  rfl
theorem p_shown {rs : List (Option Nat)} {ns : List Nat} {as : List (List Nat × List Nat)} (h : okM rs ns as) : m__law_shown [.v (eM rs ns as)] [] = .ok (.v (dueD rs ns as)) [] := by
  obtain ⟨hr, hn, h1, hd⟩ := h
  refine (run_eq ⟨rfl, rfl⟩).trans ?_
  have all : sm__law_shown [some (.v (eM rs ns as))] [] = .rt (.v (dueD rs ns as)) [] :=
    s_ret (e_fz (e_lst (e_cons (e_call (e_one (e_ixD rfl rfl rfl)) (gP_of (p_show_yard hr) rfl [])) (e_two (e_call (e_one (e_ixD rfl rfl rfl)) (gP_of (p_show_standing hn h1) rfl [])) (e_call (e_one (e_ixD rfl rfl rfl)) (gP_of (p_show_day hd) rfl [])))) rfl (by simp)))
  show xtF 0 (sm__law_shown [some (.v (eM rs ns as))] []) = _
  rw [all]
  rfl
end K45
end
section
namespace K45
open PySem PySem.Spec PyProof.Rows L2 Md
/-! ## data of numbers, none, rows -/
def lvl : List Nat → D → Bool
  | _, .non => true
  | _, .int i => decide (0 ≤ i) && decide (i.toNat < big)
  | w :: ws, .tup ds => decide (ds.length ≤ w) && ds.all (lvl ws)
  | w :: ws, .lst ds => decide (ds.length ≤ w) && ds.all (lvl ws)
  | _, _ => false
def lvB : List Nat → Nat
  | [] => 20
  | w :: ws => w * (lvB ws + 2) + 20
theorem lvB_20 : ∀ ws, 20 ≤ lvB ws
  | [] => Nat.le_refl _
  | w :: ws => by
    unfold lvB
    omega
theorem shownAll_map (ds : List D) : PyData.shownAll (toPs ds) = ds.map fun d => (toP d).shown := by
  induction ds with
  | nil => rfl
  | cons d ds ih => rw [toPs, PyData.shownAll, ih]; rfl
theorem showableAll_of {ds : List D} (h : ∀ d ∈ ds, (toP d).showable = true) : PyData.showableAll (toPs ds) = true := by
  induction ds with
  | nil => rfl
  | cons d ds ih => rw [toPs, PyData.showableAll, h d List.mem_cons_self, ih fun e he => h e (List.mem_cons_of_mem _ he)]; rfl
theorem lit128 {s : Str} {l : List Nat} (e : TL.tl s = l) (h : l.all (fun c => decide (c < 128)) = true) : Sg (· < 128) s := sg_lit e fun c hc => of_decide_eq_true (List.all_eq_true.mp h c hc)
theorem sg_join' {p : Nat → Prop} {s : Str} {ys : List Str} (h : Sg p s) (g : ∀ y ∈ ys, Sg p y) : Sg p (Str.join s ys) := by
  have := Sg.join h g
  rw [TL.join_eq] at this
  exact this
theorem nS_of {i : Int} (h : 0 ≤ i) : (Str.ofString (toString i)) = nS i.toNat := by
  unfold nS
  rw [Int.toNat_of_nonneg h]
theorem shown_none' : (PyData.none).shown = ("None" : Str) := by simp only [PyData.shown]
theorem shown_int' (i : Int) : (PyData.int i).shown = Str.ofString (toString i) := by simp only [PyData.shown]
theorem shown_tup' {ds : List D} : (toP (.tup ds)).shown = tupleText (PyData.shownAll (toPs ds)) := by simp only [toP, PyData.shown]
theorem shown_lst' {ds : List D} : (toP (.lst ds)).shown = listText (PyData.shownAll (toPs ds)) := by simp only [toP, PyData.shown]
theorem show_int' {i : Int} (h : i.natAbs.log2 < 1920) : (PyData.int i).showable = true := by simp only [PyData.showable, decide_eq_true h]
theorem show_tup' {ds : List D} (h : PyData.showableAll (toPs ds) = true) : (toP (.tup ds)).showable = true := by simp only [toP, PyData.showable, h]
theorem show_lst' {ds : List D} (h : PyData.showableAll (toPs ds) = true) : (toP (.lst ds)).showable = true := by simp only [toP, PyData.showable, h]
theorem lvl_ok : ∀ (ws : List Nat) (d : D), lvl ws d = true → (toP d).showable = true ∧ (toP d).shown.length ≤ lvB ws ∧ Sg (· < 128) (toP d).shown := by
  have leaf0 : ∀ ws, (PyData.none).shown.length ≤ lvB ws ∧ Sg (· < 128) (PyData.none).shown := fun ws => by
    have e : (PyData.none).shown = ("None" : Str) := shown_none'
    rw [e]
    have := lvB_20 ws
    have l : ("None" : Str).length = 4 := by decide
    exact ⟨by omega, lit128 (l := [78, 111, 110, 101]) (by decide) (by decide)⟩
  have leaf1 : ∀ (ws : List Nat) (i : Int), (decide (0 ≤ i) && decide (i.toNat < big)) = true → (PyData.int i).showable = true ∧ (PyData.int i).shown.length ≤ lvB ws ∧ Sg (· < 128) (PyData.int i).shown := fun ws i h => by
    obtain ⟨h1, h2⟩ := Bool.and_eq_true_iff.mp h
    have h1 := of_decide_eq_true h1
    have h2 := of_decide_eq_true h2
    have e : (PyData.int i).shown = nS i.toNat := (shown_int' i).trans (nS_of h1)
    rw [e]
    have := lvB_20 ws
    have l := len_nS h2
    refine ⟨?_, by omega, (sg_nS _).imp fun c z => by have := z.2; show c < 128; omega⟩
    have : i.natAbs.log2 < 1920 := by
      have s := nS_str h2
      simp only [strL2] at s
      rw [Int.toNat_of_nonneg h1] at s
      by_cases q : i.natAbs.log2 < 1920
      · exact q
      · rw [if_neg q] at s
        cases s
    exact show_int' this
  intro ws
  induction ws with
  | nil =>
    intro d h
    cases d with
    | non => exact ⟨rfl, leaf0 []⟩
    | int i => exact leaf1 [] i h
    | _ => cases h
  | cons w ws ih =>
    intro d h
    have seq : ∀ ds : List D, (decide (ds.length ≤ w) && ds.all (lvl ws)) = true → PyData.showableAll (toPs ds) = true ∧ ((PyData.shownAll (toPs ds)).map (·.length)).sum + 2 * (PyData.shownAll (toPs ds)).length + 3 ≤ lvB (w :: ws) ∧ ∀ t ∈ PyData.shownAll (toPs ds), Sg (· < 128) t := fun ds h => by
      obtain ⟨h1, h2⟩ := Bool.and_eq_true_iff.mp h
      have h1 := of_decide_eq_true h1
      have h2 := List.all_eq_true.mp h2
      refine ⟨showableAll_of fun d hd => (ih d (h2 d hd)).1, ?_, ?_⟩
      · rw [shownAll_map, List.map_map, List.length_map]
        have s := sum_le (f := (fun x : Str => x.length) ∘ fun d => (toP d).shown) (k := lvB ws) fun d hd => (ih d (h2 d hd)).2.1
        have e : lvB (w :: ws) = w * (lvB ws + 2) + 20 := rfl
        have e2 : ds.length * (lvB ws + 2) ≤ w * (lvB ws + 2) := Nat.mul_le_mul_right _ h1
        rw [Nat.mul_add] at e2
        omega
      · rw [shownAll_map]
        intro t ht
        obtain ⟨d, hd, rfl⟩ := List.mem_map.mp ht
        exact (ih d (h2 d hd)).2.2
    cases d with
    | non => exact ⟨rfl, leaf0 (w :: ws)⟩
    | int i => exact leaf1 (w :: ws) i h
    | tup ds =>
      obtain ⟨s1, s2, s3⟩ := seq ds h
      refine ⟨show_tup' s1, ?_, ?_⟩
      · rw [shown_tup']
        exact Nat.le_trans (tupleText_len_le _) s2
      · rw [shown_tup']
        unfold tupleText
        refine ((lit128 (l := [40]) (by decide) (by decide)).app (sg_join' (lit128 (l := [44, 32]) (by decide) (by decide)) s3)).app ?_
        split
        · exact lit128 (l := [44, 41]) (by decide) (by decide)
        · exact lit128 (l := [41]) (by decide) (by decide)
    | lst ds =>
      obtain ⟨s1, s2, s3⟩ := seq ds h
      refine ⟨show_lst' s1, ?_, ?_⟩
      · rw [shown_lst']
        exact Nat.le_trans (listText_len_le _) s2
      · rw [shown_lst', listText_eq_join]
        exact ((lit128 (l := [91]) (by decide) (by decide)).app (sg_join' (lit128 (l := [44, 32]) (by decide) (by decide)) s3)).app (lit128 (l := [93]) (by decide) (by decide))
    | _ => cases h
theorem lvl_gd : ∀ (ws : List Nat) (d : D), lvl ws d = true → gd ws.length d = true
  | [], .non, _ => rfl
  | [], .int _, _ => rfl
  | w :: ws, .non, _ => rfl
  | w :: ws, .int _, _ => rfl
  | w :: ws, .tup ds, h => List.all_eq_true.mpr fun d hd => lvl_gd ws d (List.all_eq_true.mp (Bool.and_eq_true_iff.mp h).2 d hd)
  | w :: ws, .lst ds, h => List.all_eq_true.mpr fun d hd => lvl_gd ws d (List.all_eq_true.mp (Bool.and_eq_true_iff.mp h).2 d hd)
/-! ## equal data -/
theorem eqv_refl : ∀ (n : Nat) (d : D), gd n d = true → eqvD d d = true := by
  have seq : ∀ (n : Nat), (∀ d, gd n d = true → eqvD d d = true) → ∀ ds : List D, (∀ d ∈ ds, gd n d = true) → eqvDs ds ds = true := fun n ih ds => by
    induction ds with
    | nil => exact fun _ => rfl
    | cons d ds i2 => exact fun h => by rw [eqvDs, ih d (h d List.mem_cons_self), i2 fun e he => h e (List.mem_cons_of_mem _ he)]; rfl
  intro n
  induction n with
  | zero =>
    intro d h
    cases d with
    | non => rfl
    | bl b => simp [eqvD]
    | int i => simp [eqvD]
    | str s => simp [eqvD]
    | _ => cases h
  | succ n ih =>
    intro d h
    cases d with
    | non => rfl
    | bl b => simp [eqvD]
    | int i => simp [eqvD]
    | str s => simp [eqvD]
    | tup ds => exact seq n ih ds (List.all_eq_true.mp h)
    | lst ds => exact seq n ih ds (List.all_eq_true.mp h)
    | _ => cases h
theorem eqv_inj : ∀ (ws : List Nat) (a b : D), lvl ws a = true → lvl ws b = true → eqvD a b = true → a = b := by
  have seq : ∀ (ws : List Nat), (∀ a b, lvl ws a = true → lvl ws b = true → eqvD a b = true → a = b) → ∀ xs ys : List D, (∀ d ∈ xs, lvl ws d = true) → (∀ d ∈ ys, lvl ws d = true) → eqvDs xs ys = true → xs = ys := fun ws ih xs => by
    induction xs with
    | nil =>
      intro ys _ _ h
      cases ys with
      | nil => rfl
      | cons _ _ => cases h
    | cons x xs i2 =>
      intro ys h1 h2 h
      cases ys with
      | nil => cases h
      | cons y ys =>
        obtain ⟨e1, e2⟩ := Bool.and_eq_true_iff.mp h
        rw [ih x y (h1 x List.mem_cons_self) (h2 y List.mem_cons_self) e1, i2 ys (fun d hd => h1 d (List.mem_cons_of_mem _ hd)) (fun d hd => h2 d (List.mem_cons_of_mem _ hd)) e2]
  intro ws
  induction ws with
  | nil =>
    intro a b h1 h2 h
    cases a with
    | non => cases b <;> first | rfl | cases h | cases h2
    | int i =>
      cases b with
      | int j => rw [show i = j from eq_of_beq h]
      | _ => first | cases h | cases h2
    | _ => cases h1
  | cons w ws ih =>
    intro a b h1 h2 h
    cases a with
    | non => cases b <;> first | rfl | cases h | cases h2
    | int i =>
      cases b with
      | int j => rw [show i = j from eq_of_beq h]
      | _ => first | cases h | cases h2
    | tup xs =>
      cases b with
      | tup ys => rw [seq ws ih xs ys (List.all_eq_true.mp (Bool.and_eq_true_iff.mp h1).2) (List.all_eq_true.mp (Bool.and_eq_true_iff.mp h2).2) h]
      | _ => first | cases h | cases h2
    | lst xs =>
      cases b with
      | lst ys => rw [seq ws ih xs ys (List.all_eq_true.mp (Bool.and_eq_true_iff.mp h1).2) (List.all_eq_true.mp (Bool.and_eq_true_iff.mp h2).2) h]
      | _ => first | cases h | cases h2
    | _ => cases h1
end K45
end
section
namespace K45
open PySem PySem.Spec PyProof.Rows L2 Md
section
variable {ρ : Rho} {M M1 M2 : Mh}
theorem gO_of {m : Mf} {ss : List S} {o : MO} (h : m ss [] = .ok (.r 0) [some o]) (v : allV ss = true) (f : flatO o = true) (M : Mh) : gO m ss M = .ok (.r M.length) (M ++ [some o]) := by
  simp [gO, v, h, f]
theorem gB_ix {m : Mf} {o o' : MO} {rest : List S} {d : D} {n : Nat} (h : m (.r 0 :: rest) [some o] = .ok (.v d) [some o']) (hM : M[n]? = some (some o)) (f : flatO o = true) (f' : flatO o' = true) (v : allV rest = true) : gB m (.r n :: rest) M = .ok (.v d) (M.set n (some o')) := by
  simp [gB, v, hM, f, h, f']
theorem e_callK {p : List Nat} {n k : Nat} {g : List S → Mh → REx S} {a b : Em (List S)} {ss zs : List S} {r : REx S} (h1 : a ρ M = .ok ss M1) (h2 : b ρ M1 = .ok zs M2) (hl : ss.length = n ∧ zs.length = k) (h3 : g (sel p (ss ++ zs)) M2 = r) : eCallKn p n k g a b ρ M = r :=
  e_bind h1 (e_bind h2 (by simp only [if_pos hl]; exact h3))
end
theorem repS_of {s : S} {M : Mh} {d : D} (h : rdS 4 M s = some d) (hl : lvl [3, 60, 9, 9] d = true) (hs : scD d = false) : repS [s] M = .ok (.v (.str (toP d).shown)) M := by
  obtain ⟨h1, h2, _⟩ := lvl_ok _ d hl
  have g := gd_le (lvl_gd _ d hl) (show ([3, 60, 9, 9] : List Nat).length ≤ 40 by decide)
  have b : (toP d).shown.length ≤ 16777216 := Nat.le_trans h2 (by decide)
  simp only [repS, h]
  rw [if_pos ⟨g, h1, b, hs⟩]
def rp (rs : List (Option Nat)) (ns : List Nat) (as : List (List Nat × List Nat)) : Str := (toP (eM rs ns as)).shown
theorem lvl_nD {ws : List Nat} {n : Nat} (h : n < big) : lvl ws (nD n) = true := by
  cases ws <;> simp [lvl, nD, h]
theorem lvl_L {ns : List Nat} (h : okN ns) {w : Nat} {ws : List Nat} (hw : 9 ≤ w) : lvl (w :: ws) (eL ns) = true := by
  refine Bool.and_eq_true_iff.mpr ⟨decide_eq_true (by rw [List.length_map]; have := h.1; omega), List.all_eq_true.mpr fun d hd => ?_⟩
  obtain ⟨n, hn, rfl⟩ := List.mem_map.mp hd
  exact lvl_nD (h.2 n hn)
theorem lvl_R {rs : List (Option Nat)} (h : okR rs) {w : Nat} {ws : List Nat} (hw : 9 ≤ w) : lvl (w :: ws) (eR rs) = true := by
  refine Bool.and_eq_true_iff.mpr ⟨decide_eq_true (by rw [List.length_map]; have := h.2.1; omega), List.all_eq_true.mpr fun d hd => ?_⟩
  obtain ⟨n, hn, rfl⟩ := List.mem_map.mp hd
  cases n with
  | none => cases ws <;> rfl
  | some n => exact lvl_nD (h.2.2 n hn)
theorem lvl_D {as : List (List Nat × List Nat)} (h : okD as) : lvl [60, 9, 9] (eDy as) = true := by
  refine Bool.and_eq_true_iff.mpr ⟨decide_eq_true (by rw [List.length_map]; exact h.1), List.all_eq_true.mpr fun d hd => ?_⟩
  obtain ⟨a, ha, rfl⟩ := List.mem_map.mp hd
  have h2 := h.2 a ha
  refine Bool.and_eq_true_iff.mpr ⟨rfl, List.all_eq_true.mpr fun d hd => ?_⟩
  rcases List.mem_cons.mp hd with e | e
  · rw [e]
    exact lvl_L h2.1.okN (Nat.le_refl 9)
  · rw [List.mem_singleton.mp e]
    exact lvl_L h2.2.okN (Nat.le_refl 9)
theorem lvl_M {rs : List (Option Nat)} {ns : List Nat} {as : List (List Nat × List Nat)} (h : okM rs ns as) : lvl [3, 60, 9, 9] (eM rs ns as) = true := by
  refine Bool.and_eq_true_iff.mpr ⟨rfl, List.all_eq_true.mpr fun d hd => ?_⟩
  rcases List.mem_cons.mp hd with e | hd
  · rw [e]
    exact lvl_R h.1 (by decide)
  · rcases List.mem_cons.mp hd with e | hd
    · rw [e]
      exact lvl_L h.2.1 (by decide)
    · rw [List.mem_singleton.mp hd]
      exact lvl_D h.2.2.2
theorem ne_refl {d : D} (h : gd 40 d = true) : neR d d = some false := by
  unfold neR
  rw [if_pos ⟨h, h⟩, eqv_refl 40 d h]
  rfl
theorem shD128 (as : List (List Nat × List Nat)) : PyData.strOk (shD as) = true := by
  unfold shD
  split
  · decide +kernel
  · exact rowA128 (Sg.join (sg_lit tl_sc fun c h => .inl (by simpa using h)) fun y hy => by
      obtain ⟨n, _, rfl⟩ := List.mem_map.mp hy
      exact (sg_shA n).imp fun c h => .inr h)
theorem gd_due (rs : List (Option Nat)) (ns : List Nat) (as : List (List Nat × List Nat)) : gd 40 (dueD rs ns as) = true := by
  refine List.all_eq_true.mpr fun d hd => ?_
  rcases List.mem_cons.mp hd with e | hd
  · rw [e]
    exact rowR128 (sg_shR rs)
  · rcases List.mem_cons.mp hd with e | hd
    · rw [e]
      exact row128 (sg_shL ns)
    · rw [List.mem_singleton.mp hd]
      exact shD128 as
theorem gd_rp {rs : List (Option Nat)} {ns : List Nat} {as : List (List Nat × List Nat)} (h : okM rs ns as) : gd 40 (.str (rp rs ns as)) = true := (lvl_ok _ _ (lvl_M h)).2.2.ok
theorem gdOf {ws : List Nat} {d : D} (h : lvl ws d = true) (l : ws.length ≤ 40) : gd 40 d = true := gd_le (lvl_gd _ d h) l
/-- a turn's state -/
def ro (sc kk cart parts held due mates : Option S) : Rho := [sc, kk, cart, parts, held, due, none, mates, none, none]
theorem b_turn {rs : List (Option Nat)} {ns : List Nat} {as : List (List Nat × List Nat)} (h : okM rs ns as) (sc kk cart t : Option S) (M : Mh) :
    ∃ R, bo0_law [sc, kk, cart, some (.v (eM rs ns as)), some (.v (.str (rp rs ns as))), some (.v (dueD rs ns as)), t, none, none, none] M = .nx (ro sc kk cart (some (.v (eM rs ns as))) (some (.v (.str (rp rs ns as)))) (some (.v (dueD rs ns as))) none) (M ++ R) := by
  obtain ⟨hr, hn, h1, hd⟩ := h
  have rdy : gO m_read_day [.v (.str (shD as))] M = .ok (.r M.length) (M ++ [some (.lst ((as.map eA).map .v))]) := gO_of (p_read_day hd) rfl (by
    have : allV ((as.map eA).map S.v) = true := by
      induction as.map eA with
      | nil => rfl
      | cons x xs ih => exact ih
    exact this) M
  have s6 : st6_law [sc, kk, cart, some (.v (eM rs ns as)), some (.v (.str (rp rs ns as))), some (.v (dueD rs ns as)), t, none, none, none] M = .nx [sc, kk, cart, some (.v (eM rs ns as)), some (.v (.str (rp rs ns as))), some (.v (dueD rs ns as)), t, none, some (.r (M ++ [some (MO.lst ((as.map eA).map S.v))]).length), none] ((M ++ [some (.lst ((as.map eA).map .v))]) ++ [some (.lst [.v (eR rs), .v (eL ns), .r M.length])]) :=
    s_set (e_lstO (e_cons (e_call (e_one (e_ixD rfl rfl rfl)) (gP_of (p_read_yard hr) rfl M)) (e_two (e_callK rfl (e_one (e_ixD rfl rfl rfl)) ⟨rfl, rfl⟩ (gP_of (p_read_standing hn h1) rfl M)) (e_call (e_one (e_ixD rfl rfl rfl)) rdy))) (by simp))
  generalize hM2 : (M ++ [some (MO.lst ((as.map eA).map S.v))]) ++ [some (MO.lst [.v (eR rs), .v (eL ns), .r M.length])] = M2 at s6
  have at1 : M2[M.length]? = some (some (MO.lst ((as.map eA).map S.v))) := by
    rw [← hM2]
    simp
  have at2 : M2[(M ++ [some (MO.lst ((as.map eA).map S.v))]).length]? = some (some (MO.lst [.v (eR rs), .v (eL ns), .r M.length])) := by
    rw [← hM2]
    simp
  have q : ∀ ds : List D, ∀ M, rdL (rdS 2 M) (ds.map .v) = some ds := fun ds M => by
    induction ds with
    | nil => rfl
    | cons x ds ih => simp [rdL, rdS, ih]
  have rd3 : rdS 3 M2 (.r M.length) = some (eDy as) := by
    show (match M2[M.length]? with
      | some (some (.lst xs)) => (match rdL (rdS 2 M2) xs with
        | some ds => some (D.lst ds)
        | none => none)
      | _ => none) = _
    rw [at1]
    simp only [q]
    rfl
  have rd4 : rdS 4 M2 (.r (M ++ [some (MO.lst ((as.map eA).map S.v))]).length) = some (eM rs ns as) := by
    show (match M2[(M ++ [some (MO.lst ((as.map eA).map S.v))]).length]? with
      | some (some (.lst xs)) => (match rdL (rdS 3 M2) xs with
        | some ds => some (D.lst ds)
        | none => none)
      | _ => none) = _
    rw [at2]
    simp only [rdL, rd3]
    rfl
  have rep := repS_of rd4 (lvl_M ⟨hr, hn, h1, hd⟩) rfl
  have gr := gd_rp ⟨hr, hn, h1, hd⟩
  have ap : onLs appF (.r M.length) [.v .non] M2 = .ok (.v .non) (M2.set M.length (some (.lst ((as.map eA).map .v ++ [.v .non])))) := by
    have l : ((as.map eA).map S.v).length < 16777216 := by
      have := hd.1
      simp
      omega
    have e : lsM (.r M.length) M2 = some (M.length, (as.map eA).map .v) := by simp only [lsM, at1]
    simp only [onLs, e, appF, if_pos l]
  have ix : ixS (.r (M ++ [some (MO.lst ((as.map eA).map S.v))]).length) (.v (.int 2)) M2 = .ok (.r M.length) M2 := by
    simp only [ixS, at2]
    rfl
  have isl : isL (.r M.length) M2 = true := by simp only [isL, lsM, at1]; rfl
  have fin : M2.set M.length (some (.lst ((as.map eA).map .v ++ [.v .non]))) = M ++ [some (.lst ((as.map eA).map .v ++ [.v .non])), some (MO.lst [.v (eR rs), .v (eL ns), .r M.length])] := by
    rw [← hM2, List.append_assoc, List.set_append_right _ _ (Nat.le_refl _)]
    simp
  refine ⟨[some (.lst ((as.map eA).map .v ++ [.v .non])), some (MO.lst [.v (eR rs), .v (eL ns), .r M.length])], ?_⟩
  rw [← fin]
  exact s_kill (s_seq s6 (s_seq (s_ifF (t_test (e_eqR (e_call (e_one rfl) rep) rfl rfl rfl (ne_refl gr))) rfl) (s_ex (s := .v .non) (e_meL (e_op2 rfl rfl ix) isl (e_one rfl) ap))))
end K45
end
section
namespace K45
open PySem PySem.Spec PyProof.Rows L2 Md
/-! ## unlike things, unlike writings -/
theorem inj_R {a b : List (Option Nat)} (ha : okR a) (hb : okR b) (e : shR a = shR b) : eR a = eR b := by
  have h1 := p_read_yard ha
  rw [e, p_read_yard hb] at h1
  injection h1 with h1
  injection h1 with h1
  exact h1.symm
theorem inj_L {a b : List Nat} (ha : okN a) (h1 : 1 ≤ a.length) (hb : okN b) (h2 : 1 ≤ b.length) (e : shL a = shL b) : eL a = eL b := by
  have h := p_read_standing ha h1
  rw [e, p_read_standing hb h2] at h
  injection h with h
  injection h with h
  exact h.symm
theorem map_v_inj : ∀ {a b : List D}, a.map S.v = b.map S.v → a = b
  | [], [], _ => rfl
  | [], _ :: _, h => by simp at h
  | _ :: _, [], h => by simp at h
  | x :: a, y :: b, h => by
    rw [List.map_cons, List.map_cons] at h
    injection h with h1 h2
    injection h1 with h1
    rw [h1, map_v_inj h2]
theorem inj_D {a b : List (List Nat × List Nat)} (ha : okD a) (hb : okD b) (e : shD a = shD b) : eDy a = eDy b := by
  have h := p_read_day ha
  rw [e, p_read_day hb] at h
  injection h with _ h
  injection h with h _
  injection h with h
  injection h with h
  rw [eDy, eDy, map_v_inj h]
theorem eL_inj {a b : List Nat} (h : eL a = eL b) : a = b := by
  injection h with h
  induction a generalizing b with
  | nil =>
    cases b with
    | nil => rfl
    | cons _ _ => simp at h
  | cons x a ih =>
    cases b with
    | nil => simp at h
    | cons y b =>
      rw [List.map_cons, List.map_cons] at h
      injection h with h1 h2
      unfold nD at h1
      injection h1 with h1
      rw [ih h2, show x = y by omega]
theorem eR_inj {a b : List (Option Nat)} (h : eR a = eR b) : a = b := by
  injection h with h
  induction a generalizing b with
  | nil =>
    cases b with
    | nil => rfl
    | cons _ _ => simp at h
  | cons x a ih =>
    cases b with
    | nil => simp at h
    | cons y b =>
      rw [List.map_cons, List.map_cons] at h
      injection h with h1 h2
      have e : x = y := by
        cases x with
        | none =>
          cases y with
          | none => rfl
          | some n => cases h1
        | some m =>
          cases y with
          | none => cases h1
          | some n =>
            unfold rD at h1
            injection h1 with h1
            rw [show m = n by omega]
      rw [ih h2, e]
theorem eDy_inj {a b : List (List Nat × List Nat)} (h : eDy a = eDy b) : a = b := by
  injection h with h
  induction a generalizing b with
  | nil =>
    cases b with
    | nil => rfl
    | cons _ _ => simp at h
  | cons x a ih =>
    cases b with
    | nil => simp at h
    | cons y b =>
      rw [List.map_cons, List.map_cons] at h
      injection h with h1 h2
      unfold eA at h1
      injection h1 with h1
      injection h1 with h1 h3
      injection h3 with h3 _
      have e1 := eL_inj h1
      have e2 := eL_inj h3
      obtain ⟨x1, x2⟩ := x
      obtain ⟨y1, y2⟩ := y
      simp only at e1 e2
      rw [ih h2, e1, e2]
theorem eq_same {ws : List Nat} {a b : D} {x y : Str} (ha : lvl ws a = true) (hb : lvl ws b = true) (hw : ws.length ≤ 40) (hx : PyData.strOk x = true) (hy : PyData.strOk y = true) (h1 : a = b → x = y) (h2 : x = y → a = b) :
    ∃ c, eqR a b = some c ∧ eqR (.str x) (.str y) = some c := by
  refine ⟨eqvD a b, ?_, ?_⟩
  · unfold eqR
    rw [if_pos ⟨gdOf ha hw, gdOf hb hw⟩]
  · rw [eqS hx hy]
    cases e : eqvD a b with
    | true =>
      have := eqv_inj ws a b ha hb e
      rw [h1 this]
      simp
    | false =>
      by_cases q : x = y
      · have := h2 q
        rw [this, eqv_refl 40 b (gdOf hb hw)] at e
        cases e
      · simp [q]
theorem c_cons {ρ ρ1 : Rho} {M M1 M2 M3 : Mh} {g : Tg} {t : Em Bool} {e : Em S} {d y : D} {ds ys : List D} (h1 : g (.v d) ρ M = some ρ1) (h2 : t ρ1 M = .ok true M1) (h3 : e ρ1 M1 = .ok (.v y) M2) (h4 : lcL ρ g t e ds M2 = .ok ys M3) : lcL ρ g t e (d :: ds) M = .ok (y :: ys) M3 := by
  simp only [lcL, h1, h2, h3, h4]
/-! ## one round -/
theorem madeX {N : Nat} {o : MO} (h : CartOk N o) (hN : N + 3000 < 2 ^ 60) :
    ∃ rs ns as o', okM rs ns as ∧ CartOk (N + 3000) o' ∧ ∀ M0 R, gB m__law_made [.r M0.length] (M0 ++ some o :: R) = .ok (.v (eM rs ns as)) (M0 ++ some o' :: R) := by
  obtain ⟨rs, ns, as, o', a, b, c⟩ := p_made h hN
  refine ⟨rs, ns, as, o', a, b, fun M0 R => ?_⟩
  have e : (M0 ++ some o :: R)[M0.length]? = some (some o) := by simp
  rw [gB_ix c e h.flat b.flat rfl]
  rw [List.set_append_right _ _ (Nat.le_refl _)]
  simp
theorem b_round (zs : List Int) (k : Nat) (hk : k < 100) (M0 : Mh) :
    ∃ M', bo1_law [some (.v (.lst (zs.map .int))), some (.v (nD k)), none, none, none, none, none, none, none, none] M0 = .nx [some (.v (.lst (zs.map .int))), none, none, none, none, none, none, none, none, none] M' := by
  obtain ⟨o, c1, c2⟩ := p_cart zs k hk
  obtain ⟨rs, ns, as, o1, ok, d1, d2⟩ := madeX c1 (by decide)
  obtain ⟨rs2, ns2, as2, o2, ok2, e1, e2⟩ := madeX d1 (by decide)
  generalize hsc : (some (S.v (D.lst (zs.map D.int)))) = sc
  obtain ⟨hr, hn, h1, hd⟩ := id ok
  have gO1 := gO_of (ss := [.v (.lst (zs.map .int)), .v (nD k)]) c2 rfl c1.flat M0
  have s0 : st0_law [sc, some (.v (nD k)), none, none, none, none, none, none, none, none] M0 = .nx [sc, some (.v (nD k)), some (.r M0.length), none, none, none, none, none, none, none] (M0 ++ [some o]) := by
    subst hsc
    exact s_set (e_call (e_two rfl rfl) gO1)
  have s1 : st1_law [sc, some (.v (nD k)), some (.r M0.length), none, none, none, none, none, none, none] (M0 ++ [some o]) = .nx [sc, some (.v (nD k)), some (.r M0.length), some (.v (eM rs ns as)), none, none, none, none, none, none] (M0 ++ [some o1]) :=
    s_set (e_call (e_one rfl) (d2 M0 []))
  have rep : ∀ M, repS [.v (eM rs ns as)] M = .ok (.v (.str (rp rs ns as))) M := fun M => repS_of rfl (lvl_M ok) rfl
  have s2 : st2_law [sc, some (.v (nD k)), some (.r M0.length), some (.v (eM rs ns as)), none, none, none, none, none, none] (M0 ++ [some o1]) = .nx [sc, some (.v (nD k)), some (.r M0.length), some (.v (eM rs ns as)), some (.v (.str (rp rs ns as))), none, none, none, none, none] (M0 ++ [some o1]) :=
    s_set (e_call (e_one rfl) (rep _))
  have s3 : st3_law [sc, some (.v (nD k)), some (.r M0.length), some (.v (eM rs ns as)), some (.v (.str (rp rs ns as))), none, none, none, none, none] (M0 ++ [some o1]) = .nx (ro sc (some (.v (nD k))) (some (.r M0.length)) (some (.v (eM rs ns as))) (some (.v (.str (rp rs ns as)))) (some (.v (dueD rs ns as))) none) (M0 ++ [some o1]) :=
    s_set (e_call (e_cons (e_ixD rfl rfl rfl) (e_two (e_ixD rfl rfl rfl) (e_ixD rfl rfl rfl))) (gP_of (p_texts ok) rfl _))
  have gdd := gd_due rs ns as
  have s5 : st5_law (ro sc (some (.v (nD k))) (some (.r M0.length)) (some (.v (eM rs ns as))) (some (.v (.str (rp rs ns as)))) (some (.v (dueD rs ns as))) none) (M0 ++ [some o1]) = .nx (ro sc (some (.v (nD k))) (some (.r M0.length)) (some (.v (eM rs ns as))) (some (.v (.str (rp rs ns as)))) (some (.v (dueD rs ns as))) none) (M0 ++ [some o1]) :=
    s_ifF (t_orF (t_test (e_eqR (e_call (e_one rfl) (gP_of (p_shown ok) rfl _)) rfl rfl rfl (ne_refl gdd))) (t_test (e_eqR (e_call (e_one rfl) (rep _)) rfl rfl rfl (ne_refl (gd_rp ok))))) rfl
  obtain ⟨R1, t1⟩ := b_turn ok sc (some (.v (nD k))) (some (.r M0.length)) (some (.v (.int 0))) (M0 ++ [some o1])
  obtain ⟨R2, t2⟩ := b_turn ok sc (some (.v (nD k))) (some (.r M0.length)) (some (.v (.int 1))) (M0 ++ [some o1] ++ R1)
  have f0 : fo0_law (ro sc (some (.v (nD k))) (some (.r M0.length)) (some (.v (eM rs ns as))) (some (.v (.str (rp rs ns as)))) (some (.v (dueD rs ns as))) none) (M0 ++ [some o1]) = .nx (ro sc (some (.v (nD k))) (some (.r M0.length)) (some (.v (eM rs ns as))) (some (.v (.str (rp rs ns as)))) (some (.v (dueD rs ns as))) none) (M0 ++ some o1 :: (R1 ++ R2)) := by
    refine s_for (it_rng1 (k := 2) (e_one rfl) (by decide)) ?_
    have e : M0 ++ some o1 :: (R1 ++ R2) = M0 ++ [some o1] ++ R1 ++ R2 := by simp
    rw [e]
    exact f_cons rfl t1 (f_cons rfl t2 rfl)
  generalize hM3 : M0 ++ some o1 :: (R1 ++ R2) = M3 at f0
  have s11 : st11_law (ro sc (some (.v (nD k))) (some (.r M0.length)) (some (.v (eM rs ns as))) (some (.v (.str (rp rs ns as)))) (some (.v (dueD rs ns as))) none) M3 = .nx (ro sc (some (.v (nD k))) (some (.r M0.length)) (some (.v (eM rs ns as))) (some (.v (.str (rp rs ns as)))) (some (.v (dueD rs ns as))) none) M3 :=
    s_ifF (t_test (e_eqR (e_fz (e_lst (ds := [.str (shR rs), .str (shL ns), .str (shD as)]) (e_cons (e_callK rfl (e_one (e_ixD rfl rfl rfl)) ⟨rfl, rfl⟩ (gP_of (p_show_yard hr) rfl _)) (e_two (e_callK rfl (e_one (e_ixD rfl rfl rfl)) ⟨rfl, rfl⟩ (gP_of (p_show_standing hn h1) rfl _)) (e_callK rfl (e_one (e_ixD rfl rfl rfl)) ⟨rfl, rfl⟩ (gP_of (p_show_day hd) rfl _)))) rfl (by simp))) rfl rfl rfl (ne_refl gdd))) rfl
  have rdy : gO m_read_day [.v (.str (shD as))] M3 = .ok (.r M3.length) (M3 ++ [some (.lst ((as.map eA).map .v))]) := gO_of (p_read_day hd) rfl (by
    have : allV ((as.map eA).map S.v) = true := by
      induction as.map eA with
      | nil => rfl
      | cons x xs ih => exact ih
    exact this) M3
  have rd4 : rdS 4 (M3 ++ [some (MO.lst ((as.map eA).map .v))]) (.r M3.length) = some (eDy as) := by
    have q : ∀ ds : List D, ∀ M, rdL (rdS 3 M) (ds.map .v) = some ds := fun ds M => by
      induction ds with
      | nil => rfl
      | cons x ds ih => simp [rdL, rdS, ih]
    have at1 : (M3 ++ [some (MO.lst ((as.map eA).map .v))])[M3.length]? = some (some (MO.lst ((as.map eA).map .v))) := by simp
    show (match (M3 ++ [some (MO.lst ((as.map eA).map .v))])[M3.length]? with
      | some (some (.lst xs)) => (match rdL (rdS 3 _) xs with
        | some ds => some (D.lst ds)
        | none => none)
      | _ => none) = _
    rw [at1]
    simp only [q]
    rfl
  have s13 : st13_law (ro sc (some (.v (nD k))) (some (.r M0.length)) (some (.v (eM rs ns as))) (some (.v (.str (rp rs ns as)))) (some (.v (dueD rs ns as))) none) M3 = .nx (ro sc (some (.v (nD k))) (some (.r M0.length)) (some (.v (eM rs ns as))) (some (.v (.str (rp rs ns as)))) (some (.v (dueD rs ns as))) none) (M3 ++ [some (.lst ((as.map eA).map .v))]) :=
    s_ifF (t_orF (t_test (e_eqR (e_callK rfl (e_one (e_ixD rfl rfl rfl)) ⟨rfl, rfl⟩ (gP_of (p_read_yard hr) rfl _)) (e_ixD rfl rfl rfl) rfl rfl (ne_refl (gdOf (lvl_R (ws := []) hr (Nat.le_refl 9)) (by decide))))) (t_test (e_eqR (e_callK rfl (e_one (e_ixD rfl rfl rfl)) ⟨rfl, rfl⟩ rdy) (e_ixD rfl rfl rfl) rd4 rfl (ne_refl (gdOf (lvl_D hd) (by decide)))))) rfl
  have hM4 : M3 ++ [some (MO.lst ((as.map eA).map .v))] = M0 ++ some o1 :: (R1 ++ R2 ++ [some (MO.lst ((as.map eA).map .v))]) := by
    rw [← hM3]
    simp
  have s14 : st14_law (ro sc (some (.v (nD k))) (some (.r M0.length)) (some (.v (eM rs ns as))) (some (.v (.str (rp rs ns as)))) (some (.v (dueD rs ns as))) none) (M3 ++ [some (MO.lst ((as.map eA).map .v))]) = .nx (ro sc (some (.v (nD k))) (some (.r M0.length)) (some (.v (eM rs ns as))) (some (.v (.str (rp rs ns as)))) (some (.v (dueD rs ns as))) (some (.v (eM rs2 ns2 as2)))) (M0 ++ some o2 :: (R1 ++ R2 ++ [some (MO.lst ((as.map eA).map .v))])) := by
    rw [hM4]
    exact s_set (e_call (e_one rfl) (e2 M0 _))
  generalize M0 ++ some o2 :: (R1 ++ R2 ++ [some (MO.lst ((as.map eA).map .v))]) = M5 at s14
  obtain ⟨hr2, hn2, h12, hd2⟩ := id ok2
  obtain ⟨b0, p0, q0⟩ := eq_same (lvl_R (ws := []) hr (Nat.le_refl 9)) (lvl_R (ws := []) hr2 (Nat.le_refl 9)) (by decide) (rowR128 (sg_shR rs)) (rowR128 (sg_shR rs2)) (fun e => by rw [eR_inj e]) (inj_R hr hr2)
  obtain ⟨b1, p1, q1⟩ := eq_same (lvl_L (ws := []) hn (Nat.le_refl 9)) (lvl_L (ws := []) hn2 (Nat.le_refl 9)) (by decide) (row128 (sg_shL ns)) (row128 (sg_shL ns2)) (fun e => by rw [eL_inj e]) (inj_L hn h1 hn2 h12)
  obtain ⟨b2, p2, q2⟩ := eq_same (lvl_D hd) (lvl_D hd2) (by decide) (shD128 as) (shD128 as2) (fun e => by rw [eDy_inj e]) (inj_D hd hd2)
  have l0 : lc0_law (ro sc (some (.v (nD k))) (some (.r M0.length)) (some (.v (eM rs ns as))) (some (.v (.str (rp rs ns as)))) (some (.v (dueD rs ns as))) (some (.v (eM rs2 ns2 as2)))) M5 = .ok [.bl b0, .bl b1, .bl b2] M5 := by
    refine e_lc (it_rng1 (k := 3) (e_one rfl) (by decide)) (by decide) ?_
    have x0 : (eOp2 (onR eqR) (eOp2 ixS (eName 3) (eName 9)) (eOp2 ixS (eName 7) (eName 9))) [sc, some (.v (nD k)), some (.r M0.length), some (.v (eM rs ns as)), some (.v (.str (rp rs ns as))), some (.v (dueD rs ns as)), none, some (.v (eM rs2 ns2 as2)), none, some (.v (.int 0))] M5 = .ok (.v (.bl b0)) M5 := e_eqR (e_ixD rfl rfl rfl) (e_ixD rfl rfl rfl) rfl rfl p0
    have x1 : (eOp2 (onR eqR) (eOp2 ixS (eName 3) (eName 9)) (eOp2 ixS (eName 7) (eName 9))) [sc, some (.v (nD k)), some (.r M0.length), some (.v (eM rs ns as)), some (.v (.str (rp rs ns as))), some (.v (dueD rs ns as)), none, some (.v (eM rs2 ns2 as2)), none, some (.v (.int 1))] M5 = .ok (.v (.bl b1)) M5 := e_eqR (e_ixD rfl rfl rfl) (e_ixD rfl rfl rfl) rfl rfl p1
    have x2 : (eOp2 (onR eqR) (eOp2 ixS (eName 3) (eName 9)) (eOp2 ixS (eName 7) (eName 9))) [sc, some (.v (nD k)), some (.r M0.length), some (.v (eM rs ns as)), some (.v (.str (rp rs ns as))), some (.v (dueD rs ns as)), none, some (.v (eM rs2 ns2 as2)), none, some (.v (.int 2))] M5 = .ok (.v (.bl b2)) M5 := e_eqR (e_ixD rfl rfl rfl) (e_ixD rfl rfl rfl) rfl rfl p2
    exact c_cons rfl rfl x0 (c_cons rfl rfl x1 (c_cons rfl rfl x2 rfl))
  have l1 : lc1_law (ro sc (some (.v (nD k))) (some (.r M0.length)) (some (.v (eM rs ns as))) (some (.v (.str (rp rs ns as)))) (some (.v (dueD rs ns as))) (some (.v (eM rs2 ns2 as2)))) M5 = .ok [.bl b0, .bl b1, .bl b2] M5 := by
    refine e_lc (it_rng1 (k := 3) (e_one rfl) (by decide)) (by decide) ?_
    have x0 : (eOp2 (onR eqR) (eOp2 ixS (eName 5) (eName 9)) (eOp2 ixS (eCall (gP m__law_shown) (eCons (eName 7) eNil)) (eName 9))) [sc, some (.v (nD k)), some (.r M0.length), some (.v (eM rs ns as)), some (.v (.str (rp rs ns as))), some (.v (dueD rs ns as)), none, some (.v (eM rs2 ns2 as2)), none, some (.v (.int 0))] M5 = .ok (.v (.bl b0)) M5 := e_eqR (e_ixD rfl rfl rfl) (e_ixD (e_call (e_one rfl) (gP_of (p_shown ok2) rfl _)) rfl rfl) rfl rfl q0
    have x1 : (eOp2 (onR eqR) (eOp2 ixS (eName 5) (eName 9)) (eOp2 ixS (eCall (gP m__law_shown) (eCons (eName 7) eNil)) (eName 9))) [sc, some (.v (nD k)), some (.r M0.length), some (.v (eM rs ns as)), some (.v (.str (rp rs ns as))), some (.v (dueD rs ns as)), none, some (.v (eM rs2 ns2 as2)), none, some (.v (.int 1))] M5 = .ok (.v (.bl b1)) M5 := e_eqR (e_ixD rfl rfl rfl) (e_ixD (e_call (e_one rfl) (gP_of (p_shown ok2) rfl _)) rfl rfl) rfl rfl q1
    have x2 : (eOp2 (onR eqR) (eOp2 ixS (eName 5) (eName 9)) (eOp2 ixS (eCall (gP m__law_shown) (eCons (eName 7) eNil)) (eName 9))) [sc, some (.v (nD k)), some (.r M0.length), some (.v (eM rs ns as)), some (.v (.str (rp rs ns as))), some (.v (dueD rs ns as)), none, some (.v (eM rs2 ns2 as2)), none, some (.v (.int 2))] M5 = .ok (.v (.bl b2)) M5 := e_eqR (e_ixD rfl rfl rfl) (e_ixD (e_call (e_one rfl) (gP_of (p_shown ok2) rfl _)) rfl rfl) rfl rfl q2
    exact c_cons rfl rfl x0 (c_cons rfl rfl x1 (c_cons rfl rfl x2 rfl))
  have s16 : st16_law (ro sc (some (.v (nD k))) (some (.r M0.length)) (some (.v (eM rs ns as))) (some (.v (.str (rp rs ns as)))) (some (.v (dueD rs ns as))) (some (.v (eM rs2 ns2 as2)))) M5 = .nx (ro sc (some (.v (nD k))) (some (.r M0.length)) (some (.v (eM rs ns as))) (some (.v (.str (rp rs ns as)))) (some (.v (dueD rs ns as))) (some (.v (eM rs2 ns2 as2)))) M5 :=
    s_ifF (t_test (e_eqR (e_fz l0) (e_fz l1) rfl rfl (ne_refl rfl))) rfl
  exact ⟨M5, s_kill (s_seq s0 (s_seq s1 (s_seq s2 (s_seq s3 (s_seq s5 (s_seq f0 (s_seq s11 (s_seq s13 (s_seq s14 s16)))))))))⟩
theorem p_law (zs : List Int) (hl : zs.length ≤ 63) : m_law [.v (.lst (zs.map .int))] [] = .ok (.v (.bl true)) [] := by
  obtain ⟨n, n1, n2⟩ : ∃ n : Nat, n < 100 ∧ eItL rng1 (eCons (eCall (onL maxL) (eCons (er (.v (.int 1))) (eCons (eCall (onL minL) (eCons (er (.v (.int 5))) (eCons (eCall (lenS) (eCons (eName 0) eNil)) eNil))) eNil))) eNil) [some (.v (.lst (zs.map .int))), none, none, none, none, none, none, none, none, none] [] = .ok (rngD 0 n) [] := by
    have len : lenS [.v (.lst (zs.map .int))] [] = .ok (.v (nD zs.length)) [] := by
      simp [lenS, seqS, lstS, nD]
    have mx : maxL [.int 1, nD (min zs.length 5)] = some (nD (max 1 (min zs.length 5))) := by
      unfold maxL nD
      simp only [Option.some.injEq, D.int.injEq]
      by_cases h : ((min zs.length 5 : Nat) : Int) > 1
      · rw [if_pos h]
        omega
      · rw [if_neg h]
        omega
    refine ⟨max 1 (min zs.length 5), by omega, it_rng1 (e_one (e_call (e_two rfl (e_call (e_two rfl (e_call (e_one rfl) len)) (r := .ok (.v (nD (min zs.length 5))) []) ?_)) ?_)) (by omega)⟩
    · show onL minL [.v (nD 5), .v (nD zs.length)] [] = _
      simp only [onL, frzS, min_n, eD]
    · show onL maxL [.v (.int 1), .v (nD (min zs.length 5))] [] = _
      simp only [onL, frzS, mx, eD]
      rfl
  obtain ⟨ρ', M', z1, rfl⟩ := f_inv (g := gN 1) (b := bo1_law) (fun _ ρ _ => ρ = [some (.v (.lst (zs.map .int))), none, none, none, none, none, none, none, none, none]) (ds := rngD 0 n) (k := 0) (ρ := [some (.v (.lst (zs.map .int))), none, none, none, none, none, none, none, none, none]) (M := [])
    rfl fun i d ρ M hi hJ => by
      subst hJ
      obtain ⟨l, rfl⟩ := rngD_at hi
      obtain ⟨M', b⟩ := b_round zs i (by omega) M
      exact ⟨_, _, M', rfl, b, rfl⟩
  refine (run_eq ⟨rfl, rfl⟩).trans ?_
  have all : sm_law [some (.v (.lst (zs.map .int))), none, none, none, none, none, none, none, none, none] [] = .rt (.v (.bl true)) M' := s_seq (s_for n2 z1) (s_ret rfl)
  show xtF 0 (sm_law [some (.v (.lst (zs.map .int))), none, none, none, none, none, none, none, none, none] []) = _
  rw [all]
  simp [xtF, flatM]
end K45
end
section
open PySem PySem.W PySem.Calls PyProof.Rows
theorem PySem.Challenge.cw_onemore_k45_yards_standings_days_written_holds : PySem.Challenge.rw_onemore_k45_yards_standings_days_written.Holds := by
  w_on; o_law
  refine HandSHeadRun.head_any (r := OpenLaw.row PySem.Challenge.rw_onemore_k45_yards_standings_days_written) (q := view (OpenLaw.row PySem.Challenge.rw_onemore_k45_yards_standings_days_written).prog [44]) (H := K45.hk) (ob := K45.ob) (M := 4000) (loose := K45.loose) (d := HandSHeadRun.topDef (OpenLaw.row PySem.Challenge.rw_onemore_k45_yards_standings_days_written).prog 44) (kwd := []) K45.ob_eq
    (by kernel_rfl) (fun s => by kernel_rfl) K45.run (by kernel_rfl) (by kernel_rfl) (by kernel_rfl) (by rfl) (by first | assumption | decide +kernel) (by decide +kernel) ⟨rfl, rfl, rfl, rfl, rfl, by decide +kernel⟩ ?hw ?hc
  case hw => w_witness2
  case hc =>
    refine Md.walk_M (l := PySem.Challenge.rw_onemore_k45_yards_standings_days_written) (n := 63) (k := 8) (x := "script") rfl (by decide) (by kernel_rfl) ⟨⟨rfl, by decide, by decide⟩, rfl⟩ ?F
    intro w mg fa h Y G hmg0
    obtain ⟨K, KX, c, ex⟩ := Y
    have hmg : mg ("law" : PySem.Str) = some (.ref fa) := by
      have e : (HandSHeadRun.topDef (OpenLaw.row PySem.Challenge.rw_onemore_k45_yards_standings_days_written).prog 44).name = ("law" : PySem.Str) := by kernel_rfl
      rw [← e]
      exact hmg0
    have Y : K45.FX K mg := ⟨c, ex, h, KX, G⟩
    exact Md.law_facts (d := K45.d_law) KX Y 31 31 (hmg := hmg) (Sc := K45.sc_law) (hb := fun _ _ _ _ _ _ us hl => match us, hl with | [_], _ => rfl) (body := fun base => K45.b_law Y) (good := fun zs hl _ => K45.p_law zs hl)
end
