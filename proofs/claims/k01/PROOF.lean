import PyProof.Rows.All
import Wide.All
import OpenK.AllK
import Wide.FinOn
import HandS.ForMost
import HandS.Wide
import HandS.Walk
import HandS.Zip
import HandS.IsInst
import HandS.DictComp
import HandS.WordsExc
import HandS.Defaults
import HandS.Conv
import HandS.TupAny
import HandS.More
import KE.KStateDown
import Lean
import HandS.Base
import HandS.Call
import HandS.Ends
import HandS.Words
import HandS.Head0
import HandS.Head1
import HandS.Head2
import HandS.HeadEnd
import HandS.HeadHook1
import HandS.HeadHook2
import PySem.Challenge.RW_bellsranked_k01_whole_steps_programs_lin
set_option Elab.async false
set_option linter.all false
/-! part FLa -/
set_option maxRecDepth 100000
set_option maxHeartbeats 4000007
/-! FL, part a: data, cells, states, what holds of them. -/
namespace FL
open L2 PyProof.Rows PySem.Spec PySem

/-! ### data -/
inductive D where
  | non | bl (b : Bool) | int (i : Int) | str (x : Str)
  | lst (xs : List D) | tup (xs : List D) | scr (ns : List Int)
inductive W where
  | d (x : D) | c (i : Nat)
/-- what a cell holds: the items are data; fro: it is held for good -/
inductive Cell where
  | lst (ds : List D) | dct (kvs : List (Key × D)) | fro (x : D)
abbrev Store := List Cell
/-- what an expression gives: a value, or a new object that nobody else holds -/
inductive Res where
  | w (x : W) | new (c : Cell)
abbrev Slots := List (Option W)
/-- an exception: its class's name, its fields -/
structure Exn where
  cls : Str
  flds : List (Str × D)
inductive Out (α : Type) where
  | ok (x : α) (C : Store) | exc (e : Exn) (δ : Slots) (C : Store)
abbrev EF (α : Type) := Slots → Store → Option (Out α)
def ret {α : Type} (x : α) : EF α := fun _ C => some (.ok x C)
def stuck {α : Type} : EF α := fun _ _ => none
def bnd {α β : Type} (f : EF α) (g : α → EF β) : EF β := fun δ C => match f δ C with
  | none => none
  | some (.exc e δ' C') => some (.exc e δ' C')
  | some (.ok x C') => g x δ C'
def opt {α : Type} (o : Option α) : EF α := fun _ C => match o with
  | none => none
  | some x => some (.ok x C)

/-! ### what stands for what -/
mutual
inductive Rp (K : PySem.W.Frag) (R : Hp) : V → D → Prop
  | non : Rp K R .non .non
  | bl (b : Bool) : Rp K R (.bl b) (.bl b)
  | int (i : Int) : Rp K R (.int i) (.int i)
  | str (x : Str) : x.length ≤ sizeLine → Rp K R (.str x) (.str x)
  | lst {a : Addr} {vs : List V} {ds : List D} : R a = some (.lst vs) → vs.length ≤ sizeLine → RpL K R vs ds → Rp K R (.ref a) (.lst ds)
  | tup {a : Addr} {vs : List V} {ds : List D} : SqT K R a vs → vs.length ≤ sizeLine → RpL K R vs ds → Rp K R (.ref a) (.tup ds)
  | scr {a : Addr} {ns : List Int} : SqL K R a (ns.map V.int) → ns.length ≤ sizeLine → Rp K R (.ref a) (.scr ns)
inductive RpL (K : PySem.W.Frag) (R : Hp) : List V → List D → Prop
  | nil : RpL K R [] []
  | cons {v : V} {vs : List V} {d : D} {ds : List D} : Rp K R v d → RpL K R vs ds → RpL K R (v :: vs) (d :: ds)
end
/-- R is a part of H -/
def Sub (R H : Hp) : Prop := ∀ a o, R a = some o → H a = some o
theorem Sub.refl (R : Hp) : Sub R R := fun _ _ h => h
theorem Sub.trans {R H H' : Hp} (a : Sub R H) (b : Sub H H') : Sub R H' := fun c o h => b c o (a c o h)
theorem Sub.sqL {K : PySem.W.Frag} {R H : Hp} (s : Sub R H) {a : Addr} {xs : List V} (h : SqL K R a xs) : SqL K H a xs := by
  rcases h with (h | ⟨o, h⟩) | h
  · exact .inl (.inl (s _ _ h))
  · exact .inl (.inr ⟨o, s _ _ h⟩)
  · exact .inr h
theorem Sub.sqT {K : PySem.W.Frag} {R H : Hp} (s : Sub R H) {a : Addr} {xs : List V} (h : SqT K R a xs) : SqT K H a xs := by
  rcases h with (h | ⟨o, h⟩) | h
  · exact .inl (.inl (s _ _ h))
  · exact .inl (.inr ⟨o, s _ _ h⟩)
  · exact .inr h
theorem Sub.upd {R H : Hp} (s : Sub R H) {a : Addr} {o : HO} (h : R a = none) : Sub R (upd H a o) := fun b u e => by
  rw [upd_ne (fun z => by rw [z, h] at e; cases e)]
  exact s b u e
theorem sub_upd {R : Hp} {a : Addr} {o : HO} (h : R a = none) : Sub R (L2.upd R a o) := (Sub.refl R).upd h
theorem Sub.both {R H : Hp} (s : Sub R H) {a : Addr} {o : HO} : Sub (L2.upd R a o) (L2.upd H a o) := fun b u e => by
  by_cases hb : b = a
  · subst hb
    rw [upd_same] at e ⊢
    exact e
  · rw [upd_ne hb] at e ⊢
    exact s b u e
/-- .. where it stands already -/
theorem Sub.add {R H : Hp} (s : Sub R H) {a : Addr} {o : HO} (h : H a = some o) : Sub (L2.upd R a o) H := fun b u e => by
  by_cases hb : b = a
  · subst hb
    rw [upd_same] at e
    rw [h]
    exact e
  · rw [upd_ne hb] at e
    exact s b u e
section
variable {K : PySem.W.Frag} {R R' : Hp}
mutual
theorem Rp.mono (s : Sub R R') : ∀ {v : V} {d : D}, Rp K R v d → Rp K R' v d
  | _, _, .non => .non
  | _, _, .bl b => .bl b
  | _, _, .int i => .int i
  | _, _, .str x h => .str x h
  | _, _, .lst h l r => .lst (s _ _ h) l (RpL.mono s r)
  | _, _, .tup h l r => .tup (s.sqT h) l (RpL.mono s r)
  | _, _, .scr h l => .scr (s.sqL h) l
theorem RpL.mono (s : Sub R R') : ∀ {vs : List V} {ds : List D}, RpL K R vs ds → RpL K R' vs ds
  | _, _, .nil => .nil
  | _, _, .cons h r => .cons (Rp.mono s h) (RpL.mono s r)
end
theorem RpL.length : ∀ {vs : List V} {ds : List D}, RpL K R vs ds → vs.length = ds.length
  | _, _, .nil => rfl
  | _, _, .cons _ r => congrArg Nat.succ (RpL.length r)
theorem RpL.get : ∀ {vs : List V} {ds : List D} {i : Nat} {d : D}, RpL K R vs ds → ds[i]? = some d → ∃ v, vs[i]? = some v ∧ Rp K R v d
  | _, _, _, _, .nil, e => by simp at e
  | _, _, 0, _, .cons h _, e => by simp at e; subst e; exact ⟨_, rfl, h⟩
  | _, _, i + 1, d, .cons _ r, e => by
    obtain ⟨v, h1, h2⟩ := RpL.get (i := i) (d := d) r (by simpa using e)
    exact ⟨v, by simpa using h1, h2⟩
theorem RpL.get' : ∀ {vs : List V} {ds : List D} {i : Nat} {v : V}, RpL K R vs ds → vs[i]? = some v → ∃ d, ds[i]? = some d ∧ Rp K R v d
  | _, _, _, _, .nil, e => by simp at e
  | _, _, 0, _, .cons h _, e => by simp at e; subst e; exact ⟨_, rfl, h⟩
  | _, _, i + 1, d, .cons _ r, e => by
    obtain ⟨v, h1, h2⟩ := RpL.get' (i := i) (v := d) r (by simpa using e)
    exact ⟨v, by simpa using h1, h2⟩
theorem RpL.append : ∀ {vs us : List V} {ds es : List D}, RpL K R vs ds → RpL K R us es → RpL K R (vs ++ us) (ds ++ es)
  | _, _, _, _, .nil, s => s
  | _, _, _, _, .cons h r, s => .cons h (RpL.append r s)
theorem RpL.take : ∀ {vs : List V} {ds : List D} (n : Nat), RpL K R vs ds → RpL K R (vs.take n) (ds.take n)
  | _, _, 0, _ => by simpa using .nil
  | _, _, _ + 1, .nil => by simpa using .nil
  | _, _, n + 1, .cons h r => by simpa using .cons h (RpL.take n r)
theorem RpL.drop : ∀ {vs : List V} {ds : List D} (n : Nat), RpL K R vs ds → RpL K R (vs.drop n) (ds.drop n)
  | _, _, 0, r => by simpa using r
  | _, _, _ + 1, .nil => by simpa using .nil
  | _, _, n + 1, .cons _ r => by simpa using RpL.drop n r
theorem RpL.flat {vs : List V} {ds : List D} (r : RpL K R vs ds) : ∀ n : Nat, RpL K R (List.replicate n vs).flatten (List.replicate n ds).flatten
  | 0 => by simpa using .nil
  | n + 1 => by
    rw [List.replicate_succ, List.replicate_succ, List.flatten_cons, List.flatten_cons]
    exact r.append (RpL.flat r n)
theorem RpL.bools : ∀ {vs : List V} {bs : List Bool}, RpL K R vs (bs.map D.bl) → vs = bs.map V.bl
  | vs, [], h => by cases h; rfl
  | vs, b :: bs, h => by
    cases h with
    | cons h r =>
      cases h
      rw [RpL.bools (bs := bs) r]
      rfl
theorem RpL.strs : ∀ {vs : List V} {bs : List Str}, RpL K R vs (bs.map D.str) → vs = bs.map V.str
  | vs, [], h => by cases h; rfl
  | vs, b :: bs, h => by
    cases h with
    | cons h r =>
      cases h
      rw [RpL.strs (bs := bs) r]
      rfl
theorem RpL.ints : ∀ {vs : List V} {bs : List Int}, RpL K R vs (bs.map D.int) → vs = bs.map V.int
  | vs, [], h => by cases h; rfl
  | vs, b :: bs, h => by
    cases h with
    | cons h r =>
      cases h
      rw [RpL.ints (bs := bs) r]
      rfl
theorem rpInts : ∀ (ns : List Int), RpL K R (ns.map V.int) (ns.map D.int)
  | [] => .nil
  | n :: ns => .cons (.int n) (rpInts ns)
end

/-! ### cells and states -/
def RW (K : PySem.W.Frag) (R : Hp) (as : List Addr) : V → W → Prop
  | v, .d x => Rp K R v x
  | v, .c i => ∃ a, as[i]? = some a ∧ v = .ref a
inductive RWs (K : PySem.W.Frag) (R : Hp) (as : List Addr) : List V → List W → Prop
  | nil : RWs K R as [] []
  | cons {v : V} {vs : List V} {w : W} {ws : List W} : RW K R as v w → RWs K R as vs ws → RWs K R as (v :: vs) (w :: ws)
inductive RDk (K : PySem.W.Frag) (R : Hp) : List (Key × V) → List (Key × D) → Prop
  | nil : RDk K R [] []
  | cons {k : Key} {v : V} {vs : List (Key × V)} {w : D} {ws : List (Key × D)} : Rp K R v w → RDk K R vs ws → RDk K R ((k, v) :: vs) ((k, w) :: ws)
/-- the object of a live content -/
def RC (K : PySem.W.Frag) (R : Hp) : HO → Cell → Prop
  | .lst vs, .lst ds => RpL K R vs ds ∧ vs.length ≤ sizeLine
  | .dK kvs, .dct ws => RDk K R kvs ws ∧ kvs.length ≤ sizeLine
  | _, _ => False
def CellOk (K : PySem.W.Frag) (R : Hp) (H : Hp) (a : Addr) : Cell → Prop
  | .fro x => Rp K R (.ref a) x
  | c => R a = none ∧ ∃ o, H a = some o ∧ RC K R o c
structure StoreOk (K : PySem.W.Frag) (Fr R : Hp) (as : List Addr) (C : Store) (H : Hp) : Prop where
  sub : Sub R H
  len : as.length = C.length
  nd : as.Nodup
  cell : ∀ (i : Nat) (a : Addr) (c : Cell), as[i]? = some a → C[i]? = some c → CellOk K R H a c
  there : ∀ a ∈ as, ∃ o, H a = some o
  fr : ∀ a o, Fr a = some o → H a = some o ∧ R a = none ∧ a ∉ as
structure StOk (K : PySem.W.Frag) (Fr R : Hp) (as : List Addr) (δ : Slots) (C : Store) (σ : L2.St) (H : Hp) : Prop extends StoreOk K Fr R as C H where
  slen : δ.length = σ.length
  slot : ∀ (i : Nat) (w : W), δ[i]? = some (some w) → ∃ v, σ[i]? = some (some v) ∧ RW K R as v w
def Grow (R : Hp) (as : List Addr) (R' : Hp) (as' : List Addr) : Prop := Sub R R' ∧ ∃ t, as' = as ++ t
theorem Grow.refl (R : Hp) (as : List Addr) : Grow R as R as := ⟨Sub.refl R, [], by simp⟩
theorem Grow.trans {R R1 R2 : Hp} {as as1 as2 : List Addr} (a : Grow R as R1 as1) (b : Grow R1 as1 R2 as2) : Grow R as R2 as2 := by
  obtain ⟨s, t, rfl⟩ := a
  obtain ⟨s', t', rfl⟩ := b
  exact ⟨s.trans s', t ++ t', by simp⟩
theorem Grow.at {R R1 : Hp} {as as1 : List Addr} (g : Grow R as R1 as1) {i : Nat} {a : Addr} (h : as[i]? = some a) : as1[i]? = some a := by
  obtain ⟨_, t, rfl⟩ := g
  rw [List.getElem?_append_left (List.getElem?_eq_some_iff.mp h).1]
  exact h
section
variable {K : PySem.W.Frag} {R R' : Hp} {as as' : List Addr}
theorem RW.mono (g : Grow R as R' as') {v : V} : ∀ {w : W}, RW K R as v w → RW K R' as' v w
  | .d _, h => Rp.mono g.1 h
  | .c _, ⟨a, h, e⟩ => ⟨a, g.at h, e⟩
theorem RWs.mono (g : Grow R as R' as') : ∀ {vs : List V} {ws : List W}, RWs K R as vs ws → RWs K R' as' vs ws
  | _, _, .nil => .nil
  | _, _, .cons h r => .cons (h.mono g) (r.mono g)
theorem RDk.mono (s : Sub R R') : ∀ {vs : List (Key × V)} {ws : List (Key × D)}, RDk K R vs ws → RDk K R' vs ws
  | _, _, .nil => .nil
  | _, _, .cons h r => .cons (h.mono s) (r.mono s)
theorem RC.mono (s : Sub R R') {o : HO} {c : Cell} (h : RC K R o c) : RC K R' o c := by
  cases o <;> cases c <;> try exact h
  · exact ⟨h.1.mono s, h.2⟩
  · exact ⟨h.1.mono s, h.2⟩
theorem RWs.length : ∀ {vs : List V} {ws : List W}, RWs K R as vs ws → vs.length = ws.length
  | _, _, .nil => rfl
  | _, _, .cons _ r => congrArg Nat.succ r.length
theorem RWs.get : ∀ {vs : List V} {ws : List W} {i : Nat} {w : W}, RWs K R as vs ws → ws[i]? = some w → ∃ v, vs[i]? = some v ∧ RW K R as v w
  | _, _, _, _, .nil, e => by simp at e
  | _, _, 0, _, .cons h _, e => by simp at e; subst e; exact ⟨_, rfl, h⟩
  | _, _, i + 1, d, .cons _ r, e => by
    obtain ⟨v, h1, h2⟩ := RWs.get (i := i) (w := d) r (by simpa using e)
    exact ⟨v, by simpa using h1, h2⟩
theorem RpL.set {v : V} {w : D} (h : Rp K R v w) : ∀ {vs : List V} {ws : List D} (i : Nat), RpL K R vs ws → RpL K R (vs.set i v) (ws.set i w)
  | _, _, _, .nil => .nil
  | _, _, 0, .cons _ r => .cons h r
  | _, _, i + 1, .cons q r => .cons q (RpL.set h i r)
theorem RpL.eraseIdx : ∀ {vs : List V} {ws : List D} (i : Nat), RpL K R vs ws → RpL K R (vs.eraseIdx i) (ws.eraseIdx i)
  | _, _, _, .nil => .nil
  | _, _, 0, .cons _ r => r
  | _, _, i + 1, .cons q r => .cons q (RpL.eraseIdx i r)
theorem RpL.ws : ∀ {vs : List V} {ds : List D}, RpL K R vs ds → RWs K R as vs (ds.map W.d)
  | _, _, .nil => .nil
  | _, _, .cons h r => .cons h (RpL.ws r)
end
end FL

/-! part FLb -/
set_option maxRecDepth 100000
set_option maxHeartbeats 4000007
/-! FL, part b: what a reading is of a function on data; coercions. -/
namespace FL
open L2 PyProof.Rows PySem.Spec PySem

/-- K: the written part; XR: how an exception lies; W: what is wanted of one -/
structure KX where
  K : PySem.W.Frag
  XR : Hp → Hp → Value → Option Addr → Exn → Prop
  W : WX
def PostX (X : KX) (Fr R : Hp) (as : List Addr) (e : Exn) (δ : Slots) (C : Store) : Prop :=
  ∀ R' as' σ' H' cls dd, Grow R as R' as' → StOk X.K Fr R' as' δ C σ' H' → X.XR R' H' cls dd e → X.W cls dd σ' H'
def Post {α β : Type} (X : KX) (P : Hp → Hp → List Addr → Hp → β → α → Prop) (Fr R : Hp) (as : List Addr) (δ : Slots) (σ : L2.St) (Q : β → Hp → Prop) : Option (Out α) → Prop
  | none => False
  | some (.exc e δ' C') => PostX X Fr R as e δ' C'
  | some (.ok x C') => ∀ R' as' b H', Grow R as R' as' → StOk X.K Fr R' as' δ C' σ H' → P Fr R' as' H' b x → Q b H'
/-- the reading of a function on data -/
def Lft {α β : Type} (X : KX) (P : Hp → Hp → List Addr → Hp → β → α → Prop) (f : EF α) (σ : L2.St) (H : Hp) (Q : β → Hp → Prop) : Prop :=
  ∃ Fr R as δ C, StOk X.K Fr R as δ C σ H ∧ Post X P Fr R as δ σ Q (f δ C)
section
variable {α β α1 β1 : Type} {X : KX} {P : Hp → Hp → List Addr → Hp → β → α → Prop} {P1 : Hp → Hp → List Addr → Hp → β1 → α1 → Prop} {Fr R R1 : Hp} {as as1 : List Addr} {δ : Slots} {C : Store} {σ : L2.St} {H : Hp} {Q : β → Hp → Prop} {Q1 : β1 → Hp → Prop}
theorem PostX.grow (g : Grow R as R1 as1) {e : Exn} {δ' : Slots} {C' : Store} (h : PostX X Fr R as e δ' C') : PostX X Fr R1 as1 e δ' C' :=
  fun R' as' σ' H' cls dd g' => h R' as' σ' H' cls dd (g.trans g')
theorem Post.grow (g : Grow R as R1 as1) {o : Option (Out α)} (h : Post X P Fr R as δ σ Q o) : Post X P Fr R1 as1 δ σ Q o := by
  match o, h with
  | some (.exc e δ' C'), h => exact PostX.grow g h
  | some (.ok x C'), h => exact fun R' as' b H' g' => h R' as' b H' (g.trans g')
theorem lft_bnd {f : EF α1} {g : α1 → EF α} (S : StOk X.K Fr R as δ C σ H) (h : Post X P Fr R as δ σ Q (bnd f g δ C))
    (k : ∀ R1 as1 C1 b x H1, Grow R as R1 as1 → StOk X.K Fr R1 as1 δ C1 σ H1 → P1 Fr R1 as1 H1 b x → Post X P Fr R1 as1 δ σ Q (g x δ C1) → Q1 b H1) : Lft X P1 f σ H Q1 := by
  refine ⟨Fr, R, as, δ, C, S, ?_⟩
  unfold bnd at h
  cases e : f δ C with
  | none => rw [e] at h; exact h
  | some o =>
    rw [e] at h
    cases o with
    | exc e δ' C' => exact h
    | ok x C' => exact fun R' as' b H' gr S' p => k R' as' C' b x H' gr S' p (Post.grow gr h)
/-- the same, the end weakened by what holds of the results -/
theorem lft_imp {f : EF α1} {g : α1 → EF α} (h : Lft X P (bnd f g) σ H Q)
    (k : ∀ Fr R as δ C1 b x H1, StOk X.K Fr R as δ C1 σ H1 → P1 Fr R as H1 b x → Post X P Fr R as δ σ Q (g x δ C1) → Q1 b H1) : Lft X P1 f σ H Q1 := by
  obtain ⟨Fr, R, as, δ, C, S, h⟩ := h
  exact lft_bnd S h fun R1 as1 C1 b x H1 _ S1 p q => k _ R1 as1 δ C1 b x H1 S1 p q
theorem Post.ret {x : α} {b : β} (h : Post X P Fr R as δ σ Q (ret x δ C)) (S : StOk X.K Fr R as δ C σ H) (p : P Fr R as H b x) : Q b H := h R as b H (Grow.refl R as) S p
end
section
variable {X : Cx} {e : Expr} {t t' : TE}
theorem weakE (h : PE X e t) (w : ∀ σ H Q, t' σ H Q → t σ H Q) : PE X e t' := ⟨fun pins s σ H Q I q => h.run pins s σ H Q I (w σ H Q q)⟩
theorem weakT {t t' : TT} (h : PT X e t) (w : ∀ σ H Q, t' σ H Q → t σ H Q) : PT X e t' := ⟨fun pins s σ H Q I q => h.run pins s σ H Q I (w σ H Q q)⟩
theorem weakA {es : List Expr} {t t' : TA} (h : PA X es t) (w : ∀ σ H Q, t' σ H Q → t σ H Q) : PA X es t' := ⟨fun pos pins s σ H Q I q => h.run pos pins s σ H Q I (w σ H Q q)⟩
theorem weakS {st : Stmt} {t t' : TS} (h : PS X st t) (w : ∀ D σ H, t' D σ H → t D σ H) : PS X st t' := ⟨fun pins s σ H D I q => h.run pins s σ H D I (w D σ H q)⟩
theorem weakSs {st : List Stmt} {t t' : TS} (h : PSs X st t) (w : ∀ D σ H, t' D σ H → t D σ H) : PSs X st t' := ⟨fun pins s σ H D I q => h.run pins s σ H D I (w D σ H q)⟩
end

/-! ### the relations of results -/
def PRes (K : PySem.W.Frag) (Fr R : Hp) (as : List Addr) (H : Hp) (v : V) : Res → Prop
  | .w x => RW K R as v x
  | .new c => ∃ a, v = .ref a ∧ R a = none ∧ a ∉ as ∧ Fr a = none ∧ ∃ o, H a = some o ∧ RC K R o c
def PD (K : PySem.W.Frag) (_ R : Hp) (_ : List Addr) (_ : Hp) (v : V) (d : D) : Prop := Rp K R v d
def PW' (K : PySem.W.Frag) (_ R : Hp) (as : List Addr) (_ : Hp) (v : V) (w : W) : Prop := RW K R as v w
def PB (_ _ : Hp) (_ : List Addr) (_ : Hp) (b : Bool) (c : Bool) : Prop := b = c
def PLd (K : PySem.W.Frag) (_ R : Hp) (_ : List Addr) (_ : Hp) (vs : List V) (ds : List D) : Prop := RpL K R vs ds
def PLw (K : PySem.W.Frag) (_ R : Hp) (as : List Addr) (_ : Hp) (vs : List V) (ws : List W) : Prop := RWs K R as vs ws
abbrev DE (X : Cx) (kx : KX) (e : Expr) (f : EF Res) : Prop := PE X e (Lft kx (PRes kx.K) f)
abbrev DD (X : Cx) (kx : KX) (e : Expr) (f : EF D) : Prop := PE X e (Lft kx (PD kx.K) f)
abbrev DW (X : Cx) (kx : KX) (e : Expr) (f : EF W) : Prop := PE X e (Lft kx (PW' kx.K) f)
abbrev DT (X : Cx) (kx : KX) (e : Expr) (f : EF Bool) : Prop := PT X e (Lft kx PB f)
abbrev DA (X : Cx) (kx : KX) (es : List Expr) (f : EF (List D)) : Prop := PA X es (Lft kx (PLd kx.K) f)
abbrev DAw (X : Cx) (kx : KX) (es : List Expr) (f : EF (List W)) : Prop := PA X es (Lft kx (PLw kx.K) f)

/-! ### the state's steps -/
section
variable {K : PySem.W.Frag} {Fr R R' : Hp} {as : List Addr} {δ : Slots} {C : Store} {σ : L2.St} {H H' : Hp} {a : Addr} {o : HO}
/-- what is not held by a cell is held for good -/
theorem StoreOk.freeze (S : StoreOk K Fr R as C H) (hn : R a = none) (ha : a ∉ as) (hf : Fr a = none) (ho : H a = some o) : StoreOk K Fr (upd R a o) as C H where
  sub := S.sub.add ho
  len := S.len
  nd := S.nd
  there := S.there
  fr := fun b u e => by
    obtain ⟨q1, q2, q3⟩ := S.fr b u e
    exact ⟨q1, by rw [upd_ne (fun z => by rw [z, hf] at e; cases e)]; exact q2, q3⟩
  cell := fun i b c hb hc => by
    have q := S.cell i b c hb hc
    have nb : b ≠ a := fun z => ha (z ▸ List.mem_of_getElem? hb)
    have g : Grow R as (upd R a o) as := ⟨sub_upd hn, [], by simp⟩
    cases c with
    | fro x => exact Rp.mono g.1 q
    | lst ws => obtain ⟨q1, u, q2, q3⟩ := q; exact ⟨by rw [upd_ne nb]; exact q1, u, q2, q3.mono g.1⟩
    | dct ws => obtain ⟨q1, u, q2, q3⟩ := q; exact ⟨by rw [upd_ne nb]; exact q1, u, q2, q3.mono g.1⟩
theorem StOk.grow {Fr' : Hp} {as' : List Addr} {C' : Store} (S : StOk K Fr R as δ C σ H) (g : Grow R as R' as') (S' : StoreOk K Fr' R' as' C' H') : StOk K Fr' R' as' δ C' σ H' :=
  ⟨S', S.slen, fun i w h => let ⟨v, h1, h2⟩ := S.slot i w h; ⟨v, h1, h2.mono g⟩⟩
theorem StOk.freeze (S : StOk K Fr R as δ C σ H) (hn : R a = none) (ha : a ∉ as) (hf : Fr a = none) (ho : H a = some o) : StOk K Fr (upd R a o) as δ C σ H :=
  S.grow ⟨sub_upd hn, [], by simp⟩ (S.toStoreOk.freeze hn ha hf ho)
/-- a live cell is held for good: its content is data -/
theorem StoreOk.fix (S : StoreOk K Fr R as C H) {i : Nat} {c : Cell} {x : D} (hi : as[i]? = some a) (hc : C[i]? = some c) (hn : R a = none) (ho : H a = some o) (hx : Rp K (upd R a o) (.ref a) x) : StoreOk K Fr (upd R a o) as (C.set i (.fro x)) H where
  sub := S.sub.add ho
  len := by rw [List.length_set]; exact S.len
  nd := S.nd
  there := S.there
  fr := fun b u e => by
    obtain ⟨q1, q2, q3⟩ := S.fr b u e
    exact ⟨q1, by rw [upd_ne (show b ≠ a from fun z => q3 (by rw [z]; exact List.mem_of_getElem? hi))]; exact q2, q3⟩
  cell := fun j b c' hb hc' => by
    have g : Grow R as (upd R a o) as := ⟨sub_upd hn, [], by simp⟩
    by_cases hj : j = i
    · subst hj
      rw [hi] at hb
      cases hb
      rw [List.getElem?_set_self (List.getElem?_eq_some_iff.mp hc).1] at hc'
      cases hc'
      exact hx
    · rw [List.getElem?_set_ne (Ne.symm hj)] at hc'
      have q := S.cell j b c' hb hc'
      have nb : b ≠ a := fun z => by
        subst z
        obtain ⟨h1, e1⟩ := List.getElem?_eq_some_iff.mp hb
        obtain ⟨h2, e2⟩ := List.getElem?_eq_some_iff.mp hi
        exact hj ((List.getElem_inj S.nd).mp (e1.trans e2.symm))
      cases c' with
      | fro x => exact Rp.mono g.1 q
      | lst ws => obtain ⟨q1, u, q2, q3⟩ := q; exact ⟨by rw [upd_ne nb]; exact q1, u, q2, q3.mono g.1⟩
      | dct ws => obtain ⟨q1, u, q2, q3⟩ := q; exact ⟨by rw [upd_ne nb]; exact q1, u, q2, q3.mono g.1⟩
/-- new objects elsewhere -/
theorem StoreOk.more (S : StoreOk K Fr R as C H) (hs : Sub H H') : StoreOk K Fr R as C H' where
  sub := S.sub.trans hs
  len := S.len
  nd := S.nd
  there := fun a h => let ⟨o, q⟩ := S.there a h; ⟨o, hs _ _ q⟩
  fr := fun b u e => let ⟨q1, q2, q3⟩ := S.fr b u e; ⟨hs _ _ q1, q2, q3⟩
  cell := fun i b c hb hc => by
    have q := S.cell i b c hb hc
    cases c with
    | fro x => exact q
    | lst ws => obtain ⟨q1, u, q2, q3⟩ := q; exact ⟨q1, u, hs _ _ q2, q3⟩
    | dct ws => obtain ⟨q1, u, q2, q3⟩ := q; exact ⟨q1, u, hs _ _ q2, q3⟩
theorem StOk.more (S : StOk K Fr R as δ C σ H) (hs : Sub H H') : StOk K Fr R as δ C σ H' := S.grow (Grow.refl _ _) (S.toStoreOk.more hs)
/-- a new object, owned: a cell more -/
theorem StoreOk.alloc (S : StoreOk K Fr R as C H) {c : Cell} (hn : R a = none) (ha : a ∉ as) (hf : Fr a = none) (ho : H a = some o) (hc : RC K R o c) : StoreOk K Fr R (as ++ [a]) (C ++ [c]) H where
  sub := S.sub
  len := by rw [List.length_append, List.length_append, S.len]; rfl
  nd := by
    rw [List.nodup_append]
    exact ⟨S.nd, by simp, fun x hx y hy => by simp at hy; subst hy; exact fun z => ha (z ▸ hx)⟩
  there := fun b h => by
    rcases List.mem_append.mp h with h | h
    · exact S.there b h
    · simp at h; subst h; exact ⟨o, ho⟩
  fr := fun b u e => by
    obtain ⟨q1, q2, q3⟩ := S.fr b u e
    refine ⟨q1, q2, fun z => ?_⟩
    rcases List.mem_append.mp z with z | z
    · exact q3 z
    · simp at z; rw [z, hf] at e; cases e
  cell := fun i b c' hb hc' => by
    have g : Grow R as R (as ++ [a]) := ⟨Sub.refl R, [a], rfl⟩
    by_cases hi : i < as.length
    · rw [List.getElem?_append_left hi] at hb
      rw [List.getElem?_append_left (by rw [← S.len]; exact hi)] at hc'
      have q := S.cell i b c' hb hc'
      cases c' with
      | fro x => exact q
      | lst ws => obtain ⟨q1, u, q2, q3⟩ := q; exact ⟨q1, u, q2, q3⟩
      | dct ws => obtain ⟨q1, u, q2, q3⟩ := q; exact ⟨q1, u, q2, q3⟩
    · rw [List.getElem?_append_right (by omega)] at hb
      rw [List.getElem?_append_right (by rw [← S.len]; omega)] at hc'
      have hz : i - as.length = 0 := by
        have := (List.getElem?_eq_some_iff.mp hb).1
        simp at this
        omega
      rw [hz] at hb
      rw [← S.len, hz] at hc'
      simp at hb hc'
      subst hb hc'
      cases c with
      | fro x => cases o <;> exact hc.elim
      | lst ws => exact ⟨hn, o, ho, hc⟩
      | dct ws => exact ⟨hn, o, ho, hc⟩
/-- a live cell written -/
theorem StoreOk.write (S : StoreOk K Fr R as C H) {i : Nat} {c c0 : Cell} (hi : as[i]? = some a) (hc0 : C[i]? = some c0) (hn : R a = none) (hc : RC K R o c) : StoreOk K Fr R as (C.set i c) (upd H a o) where
  sub := S.sub.upd hn
  len := by rw [List.length_set]; exact S.len
  nd := S.nd
  there := fun b h => by
    by_cases hb : b = a
    · subst hb; exact ⟨o, upd_same⟩
    · rw [upd_ne hb]; exact S.there b h
  fr := fun b u e => by
    obtain ⟨q1, q2, q3⟩ := S.fr b u e
    exact ⟨by rw [upd_ne (show b ≠ a from fun z => q3 (by rw [z]; exact List.mem_of_getElem? hi))]; exact q1, q2, q3⟩
  cell := fun j b c' hb hc' => by
    by_cases hj : j = i
    · subst hj
      rw [hi] at hb
      cases hb
      rw [List.getElem?_set_self (List.getElem?_eq_some_iff.mp hc0).1] at hc'
      cases hc'
      cases c with
      | fro x => cases o <;> exact hc.elim
      | lst ws => exact ⟨hn, o, upd_same, hc⟩
      | dct ws => exact ⟨hn, o, upd_same, hc⟩
    · rw [List.getElem?_set_ne (Ne.symm hj)] at hc'
      have q := S.cell j b c' hb hc'
      have nb : b ≠ a := fun z => by
        subst z
        obtain ⟨h1, e1⟩ := List.getElem?_eq_some_iff.mp hb
        obtain ⟨h2, e2⟩ := List.getElem?_eq_some_iff.mp hi
        exact hj ((List.getElem_inj S.nd).mp (e1.trans e2.symm))
      cases c' with
      | fro x => exact q
      | lst ws => obtain ⟨q1, u, q2, q3⟩ := q; exact ⟨q1, u, by rw [upd_ne nb]; exact q2, q3⟩
      | dct ws => obtain ⟨q1, u, q2, q3⟩ := q; exact ⟨q1, u, by rw [upd_ne nb]; exact q2, q3⟩
/-- an address that nothing holds is in no cell -/
theorem StoreOk.fresh (S : StoreOk K Fr R as C H) (h : H a = none) : R a = none ∧ a ∉ as ∧ Fr a = none := by
  refine ⟨?_, fun hm => ?_, ?_⟩
  · cases q : R a with
    | none => rfl
    | some u => rw [S.sub _ _ q] at h; cases h
  · obtain ⟨u, q⟩ := S.there a hm
    rw [q] at h
    cases h
  · cases q : Fr a with
    | none => rfl
    | some u => rw [(S.fr _ _ q).1] at h; cases h
/-- a new object is laid -/
theorem StOk.laid (S : StOk K Fr R as δ C σ H) (h : H a = none) : StOk K Fr R as δ C σ (upd H a o) ∧ R a = none ∧ a ∉ as ∧ Fr a = none ∧ upd H a o a = some o :=
  ⟨S.more fun b u e => by rw [upd_ne (ne_of_none e h)]; exact e, (S.toStoreOk.fresh h).1, (S.toStoreOk.fresh h).2.1, (S.toStoreOk.fresh h).2.2, upd_same⟩
end

/-! ### coercions -/
def fixC (i : Nat) : EF D := fun _ C => match C[i]? with
  | some (.fro x) => some (.ok x C)
  | some (.lst ds) => some (.ok (.lst ds) (C.set i (.fro (.lst ds))))
  | _ => none
def resD : Res → EF D
  | .w (.d x) => ret x
  | .w (.c i) => fixC i
  | .new (.lst ds) => ret (.lst ds)
  | .new _ => stuck
def resW : Res → EF W
  | .w x => ret x
  | .new c => fun _ C => some (.ok (.c C.length) (C ++ [c]))
section
variable {X : Cx} {kx : KX} {e : Expr} {f : EF Res} {Fr R : Hp} {as : List Addr} {δ : Slots} {C : Store} {σ : L2.St} {H : Hp} {v : V} {r : Res}
theorem res_d {Q : V → Hp → Prop} (S : StOk kx.K Fr R as δ C σ H) (p : PRes kx.K Fr R as H v r) (h : Post kx (PD kx.K) Fr R as δ σ Q (resD r δ C)) : Q v H := by
  match r, p, h with
  | .w (.d x), p, h => exact h.ret S p
  | .w (.c i), ⟨a, ha, ev⟩, h =>
    subst ev
    have h : Post kx (PD kx.K) Fr R as δ σ Q (fixC i δ C) := h
    unfold fixC at h
    cases q : C[i]? with
    | none => rw [q] at h; exact h.elim
    | some c =>
      rw [q] at h
      have z := S.cell i a c ha q
      cases c with
      | fro x => exact h R as _ H (Grow.refl _ _) S z
      | dct _ => exact h.elim
      | lst ws =>
        obtain ⟨hn, o, ho, hc⟩ := z
        cases o with
        | lst vs =>
          have g : Grow R as (upd R a (.lst vs)) as := ⟨sub_upd hn, [], by simp⟩
          have rp : Rp kx.K (upd R a (.lst vs)) (.ref a) (.lst ws) := .lst upd_same hc.2 (RpL.mono g.1 hc.1)
          exact h _ _ _ H g (S.grow g (S.toStoreOk.fix ha q hn ho rp)) rp
        | _ => exact hc.elim
  | .new (.lst ws), ⟨a, ev, hn, hm, hf, o, ho, hc⟩, h =>
    subst ev
    cases o with
    | lst vs =>
      have g : Grow R as (upd R a (.lst vs)) as := ⟨sub_upd hn, [], by simp⟩
      exact h _ _ _ H g (S.freeze hn hm hf ho) (.lst upd_same hc.2 (RpL.mono g.1 hc.1))
    | _ => exact hc.elim
  | .new (.dct _), _, h => exact h.elim
  | .new (.fro _), _, h => exact h.elim
theorem res_w {Q : V → Hp → Prop} (S : StOk kx.K Fr R as δ C σ H) (p : PRes kx.K Fr R as H v r) (h : Post kx (PW' kx.K) Fr R as δ σ Q (resW r δ C)) : Q v H := by
  match r, p, h with
  | .w x, p, h => exact h.ret S p
  | .new c, ⟨a, ev, hn, hm, hf, o, ho, hc⟩, h =>
    subst ev
    have g : Grow R as R (as ++ [a]) := ⟨Sub.refl R, [a], rfl⟩
    refine h _ _ _ H g (S.grow g (S.toStoreOk.alloc hn hm hf ho hc)) ⟨a, ?_, rfl⟩
    rw [List.getElem?_append_right (by rw [S.len]; exact Nat.le_refl _), S.len]
    simp
theorem dd_of (h : DE X kx e f) : DD X kx e (bnd f resD) := weakE h fun σ H Q q => lft_imp q fun Fr R as δ C1 b x H1 S p z => res_d S p z
theorem dw_of (h : DE X kx e f) : DW X kx e (bnd f resW) := weakE h fun σ H Q q => lft_imp q fun Fr R as δ C1 b x H1 S p z => res_w S p z
end

/-! ### views -/
/-- what a value shows -/
inductive Vw where
  | sc (x : D) | str (x : Str) | lst (ds : List D) | tup (ds : List D) | scr (ns : List Int) | dct (kvs : List (Key × D))
def lookD : D → Vw
  | .lst ds => .lst ds
  | .tup ds => .tup ds
  | .scr ns => .scr ns
  | .str x => .str x
  | x => .sc x
def lookC : Cell → Vw
  | .fro x => lookD x
  | .lst ws => .lst ws
  | .dct kvs => .dct kvs
def look : Res → Store → Option Vw
  | .w (.d x), _ => some (lookD x)
  | .w (.c i), C => C[i]?.map lookC
  | .new (.fro _), _ => none
  | .new c, _ => some (lookC c)
def Scal : D → Prop
  | .non => True
  | .bl _ => True
  | .int _ => True
  | _ => False
def VwOk (K : PySem.W.Frag) (R : Hp) (as : List Addr) (H : Hp) (v : V) : Vw → Prop
  | .sc x => Rp K R v x ∧ Scal x
  | .str x => v = .str x ∧ x.length ≤ sizeLine
  | .lst ws => ∃ a vs, v = .ref a ∧ H a = some (.lst vs) ∧ RpL K R vs ws ∧ vs.length ≤ sizeLine
  | .tup ds => ∃ a vs, v = .ref a ∧ SqT K H a vs ∧ RpL K R vs ds ∧ vs.length ≤ sizeLine ∧ SqT K R a vs
  | .scr ns => ∃ a, v = .ref a ∧ SqL K H a (ns.map V.int) ∧ ns.length ≤ sizeLine
  | .dct kvs => ∃ a vs, v = .ref a ∧ H a = some (.dK vs) ∧ RDk K R vs kvs ∧ vs.length ≤ sizeLine
theorem lookD_ok {K : PySem.W.Frag} {R : Hp} {as : List Addr} {H : Hp} {v : V} {x : D} (s : Sub R H) (p : Rp K R v x) : VwOk K R as H v (lookD x) := by
  cases p with
  | non => exact ⟨.non, trivial⟩
  | bl b => exact ⟨.bl b, trivial⟩
  | int i => exact ⟨.int i, trivial⟩
  | str x h => exact ⟨rfl, h⟩
  | lst h l r => exact ⟨_, _, rfl, s _ _ h, r, l⟩
  | tup h l r => exact ⟨_, _, rfl, s.sqT h, r, l, h⟩
  | scr h l => exact ⟨_, rfl, s.sqL h, l⟩
theorem look_ok {K : PySem.W.Frag} {Fr R : Hp} {as : List Addr} {C : Store} {H : Hp} {v : V} {r : Res} {vw : Vw} (S : StoreOk K Fr R as C H) (p : PRes K Fr R as H v r) (h : look r C = some vw) : VwOk K R as H v vw := by
  match r, p, h with
  | .w (.d x), p, h => cases h; exact lookD_ok S.sub p
  | .w (.c i), ⟨a, ha, ev⟩, h =>
    subst ev
    have h : C[i]?.map lookC = some vw := h
    cases q : C[i]? with
    | none => rw [q] at h; cases h
    | some c =>
      rw [q] at h
      cases h
      have z := S.cell i a c ha q
      cases c with
      | fro x => exact lookD_ok S.sub z
      | lst ws =>
        obtain ⟨hn, o, ho, hc⟩ := z
        cases o with
        | lst vs => exact ⟨a, vs, rfl, ho, hc.1, hc.2⟩
        | _ => exact hc.elim
      | dct ws =>
        obtain ⟨hn, o, ho, hc⟩ := z
        cases o with
        | dK vs => exact ⟨a, vs, rfl, ho, hc.1, hc.2⟩
        | _ => exact hc.elim
  | .new (.lst ws), ⟨a, ev, hn, hm, hf, o, ho, hc⟩, h =>
    subst ev
    cases h
    cases o with
    | lst vs => exact ⟨a, vs, rfl, ho, hc.1, hc.2⟩
    | _ => exact hc.elim
  | .new (.dct ws), ⟨a, ev, hn, hm, hf, o, ho, hc⟩, h =>
    subst ev
    cases h
    cases o with
    | dK vs => exact ⟨a, vs, rfl, ho, hc.1, hc.2⟩
    | _ => exact hc.elim
end FL

/-! part FLc -/
set_option maxRecDepth 100000
set_option maxHeartbeats 4000007
/-! FL, part c: names, constants, operators, comparisons, tests. -/
namespace FL
open L2 PyProof.Rows PySem.Spec PySem

abbrev rd (x : D) : Res := .w (.d x)
def fVar (i : Nat) : EF Res := fun δ C => match δ[i]? with
  | some (some w) => some (.ok (.w w) C)
  | _ => none
section
variable {X : Cx} {kx : KX} {pos : Pos}
theorem de_var {i : Nat} {x : Str} (hN : X.N[i]? = some x) (hv : Vis X.env.scope x) (hd : (x == ("__debug__" : Str)) = false) (hcd : (x == ("__classdict__" : Str)) = false) : DE X kx (.Name x pos) (fVar i) :=
  weakE (pe_var hN hv hd hcd) fun σ H Q ⟨Fr, R, as, δ, C, S, h⟩ => by
    unfold fVar at h
    cases q : δ[i]? with
    | none => rw [q] at h; exact h.elim
    | some o =>
      rw [q] at h
      cases o with
      | none => exact h.elim
      | some w =>
        obtain ⟨v, hv, p⟩ := S.slot i w q
        exact ⟨v, hv, h _ _ _ _ (Grow.refl _ _) S p⟩
theorem de_ret {e : Expr} {v : V} {x : D} (h : PE X e (tC v)) (hx : ∀ R, Rp kx.K R v x) : DE X kx e (ret (rd x)) :=
  weakE h fun σ H Q ⟨Fr, R, as, δ, C, S, q⟩ => q _ _ _ _ (Grow.refl _ _) S (hx R)
theorem de_int {i j} : DE X kx (.Constant (.int i) j pos) (ret (rd (.int i))) := de_ret pe_int fun _ => .int i
theorem de_bl {b j} : DE X kx (.Constant (.bool b) j pos) (ret (rd (.bl b))) := de_ret pe_bl fun _ => .bl b
theorem de_non {j} : DE X kx (.Constant .none j pos) (ret (rd .non)) := de_ret pe_non fun _ => .non
theorem de_str {x : Str} {j} (h : x.length ≤ sizeLine) : DE X kx (.Constant (.str x) j pos) (ret (rd (.str x))) := de_ret pe_str fun _ => .str x h
end

/-! ### operators -/
theorem flat_len {α : Type} (xs : List α) : ∀ n : Nat, (List.replicate n xs).flatten.length = n * xs.length
  | 0 => by simp
  | n + 1 => by rw [List.replicate_succ, List.flatten_cons, List.length_append, flat_len xs n, Nat.succ_mul]; omega
def L2R (kx : KX) (g : D → D → Option Res) : R2 := fun x y H Q => ∃ Fr R as δ C σ dx dy, StOk kx.K Fr R as δ C σ H ∧ Rp kx.K R x dx ∧ Rp kx.K R y dy ∧ Post kx (PRes kx.K) Fr R as δ σ Q (opt (g dx dy) δ C)
def addF : D → D → Option Res
  | .int i, .int j => some (rd (.int (i + j)))
  | .str a, .str b => if a.length + b.length ≤ sizeLine then some (rd (.str (a ++ b))) else none
  | .lst xs, .lst ys => if xs.length + ys.length ≤ sizeLine then some (.new (.lst (xs ++ ys))) else none
  | .tup xs, .tup ys => if xs.length ≠ 0 ∧ xs.length + ys.length ≤ sizeLine then some (rd (.tup (xs ++ ys))) else none
  | _, _ => none
def subF : D → D → Option Res
  | .int i, .int j => some (rd (.int (i - j)))
  | _, _ => none
def mulF : D → D → Option Res
  | .int i, .int j => if (-(2 ^ 64) < i ∧ i < 2 ^ 64) ∨ (-(2 ^ 64) < j ∧ j < 2 ^ 64) then some (rd (.int (i * j))) else none
  | .lst xs, .int k => if -(2 ^ 63) ≤ k ∧ k < 2 ^ 63 ∧ xs.length * k.toNat ≤ sizeLine then some (.new (.lst (List.replicate k.toNat xs).flatten)) else none
  | _, _ => none
def divF : D → D → Option Res
  | .int i, .int j => if 0 < j ∧ j < 1073741824 then some (rd (.int (i / j))) else none
  | _, _ => none
def modF : D → D → Option Res
  | .int i, .int j => if 0 < j then some (rd (.int (i % j))) else none
  | _, _ => none
def powF : D → D → Option Res
  | .int i, .int j => if 0 ≤ j ∧ j ≤ 1000000 ∧ i.natAbs < 2 ^ 64 then some (rd (.int (i ^ j.toNat))) else none
  | _, _ => none
def opF : Operator → D → D → Option Res
  | .Add => addF
  | .Sub => subF
  | .Mult => mulF
  | .FloorDiv => divF
  | .Mod => modF
  | .Pow => powF
  | _ => fun _ _ => none
section
variable {X : Cx} {kx : KX} {pos : Pos} {Fr R : Hp} {as : List Addr} {δ : Slots} {C : Store} {σ : L2.St} {H : Hp} {Q : V → Hp → Prop}
theorem opt_ok {r : Res} {v : V} (S : StOk kx.K Fr R as δ C σ H) (h : Post kx (PRes kx.K) Fr R as δ σ Q (opt (some r) δ C)) (p : PRes kx.K Fr R as H v r) : Q v H := h R as v H (Grow.refl R as) S p
/-- a new list -/
theorem new_lst {vs : List V} {ws : List D} (S : StOk kx.K Fr R as δ C σ H) (h : Post kx (PRes kx.K) Fr R as δ σ Q (opt (some (.new (.lst ws))) δ C)) (hr : RpL kx.K R vs ws) (hl : vs.length ≤ sizeLine) :
    ∀ p, H p = none → Q (.ref p) (upd H p (.lst vs)) := fun p hp => by
  obtain ⟨S1, hn, hm, hf, ho⟩ := S.laid (o := .lst vs) hp
  exact h R as _ _ (Grow.refl R as) S1 ⟨p, rfl, hn, hm, hf, _, ho, hr, hl⟩
/-- a new tuple: data -/
theorem new_tup {vs : List V} {ds : List D} (S : StOk kx.K Fr R as δ C σ H) (h : Post kx (PRes kx.K) Fr R as δ σ Q (opt (some (rd (.tup ds))) δ C)) (hr : RpL kx.K R vs ds) (hl : vs.length ≤ sizeLine) :
    ∀ p, H p = none → Q (.ref p) (upd H p (.tup vs)) := fun p hp => by
  obtain ⟨S1, hn, hm, hf, ho⟩ := S.laid (o := .tup vs) hp
  exact h _ as _ _ ⟨sub_upd hn, [], by simp⟩ (S1.freeze hn hm hf ho) (.tup (SqT.of upd_same) hl (hr.mono (sub_upd hn)))
theorem opr_add (hK : kx.K = X.K) : OpR X (binaryOp .Add) (L2R kx addF) := by
  intro pins s σ0 H x y v u Q I rx ry h
  obtain ⟨Fr, R, as, δ, C, σ', dx, dy, S, px, py, post⟩ := h
  obtain ⟨K, XR, Wx⟩ := kx
  cases hK
  cases px <;> cases py <;> try exact post.elim
  · exact op_add pins s σ0 H _ _ v u Q I rx ry ⟨_, _, rfl, rfl, opt_ok S post (.int _)⟩
  · rename_i a ha b hb
    unfold addF at post
    by_cases hl : a.length + b.length ≤ sizeLine
    · simp only [if_pos hl] at post
      refine op_add_str pins s σ0 H _ _ v u Q I rx ry ⟨_, _, rfl, rfl, hl, opt_ok S post (.str _ ?_)⟩
      show (a.cps ++ b.cps).size ≤ sizeLine
      rw [Array.size_append]
      exact hl
    · simp only [if_neg hl] at post; exact post.elim
  · rename_i a vs ds ha hl1 ra b us es hb hl2 rb
    unfold addF at post
    by_cases hl : ds.length + es.length ≤ sizeLine
    · simp only [if_pos hl] at post
      have e1 := ra.length
      have e2 := rb.length
      exact op_cat pins s σ0 H _ _ v u Q I rx ry ⟨_, _, _, _, rfl, rfl, S.sub _ _ ha, S.sub _ _ hb, by omega, new_lst S post (ra.append rb) (by rw [List.length_append]; omega)⟩
    · simp only [if_neg hl] at post; exact post.elim
  · rename_i a vs ds ha hl1 ra b us es hb hl2 rb
    unfold addF at post
    by_cases hl : ds.length ≠ 0 ∧ ds.length + es.length ≤ sizeLine
    · simp only [if_pos hl] at post
      have e1 := ra.length
      have e2 := rb.length
      refine op_catT pins s σ0 H _ _ v u Q I rx ry ⟨_, _, _, _, rfl, rfl, S.sub.sqT ha, S.sub.sqT hb, (fun z => by rw [z] at e1; exact hl.1 e1.symm), by omega, fun z => ?_, fun _ => new_tup S post (ra.append rb) (by rw [List.length_append]; omega)⟩
      subst z
      cases rb
      refine opt_ok S post ?_
      rw [List.append_nil]
      exact .tup ha hl1 ra
    · simp only [if_neg hl] at post; exact post.elim
theorem opr_sub (hK : kx.K = X.K) : OpR X (binaryOp .Sub) (L2R kx subF) := by
  intro pins s σ0 H x y v u Q I rx ry h
  obtain ⟨Fr, R, as, δ, C, σ', dx, dy, S, px, py, post⟩ := h
  cases px <;> cases py <;> try exact post.elim
  exact op_sub pins s σ0 H _ _ v u Q I rx ry ⟨_, _, rfl, rfl, opt_ok S post (.int _)⟩
theorem opr_mul (hK : kx.K = X.K) : OpR X (binaryOp .Mult) (L2R kx mulF) := by
  intro pins s σ0 H x y v u Q I rx ry h
  obtain ⟨Fr, R, as, δ, C, σ', dx, dy, S, px, py, post⟩ := h
  obtain ⟨K, XR, Wx⟩ := kx
  cases hK
  cases px <;> cases py <;> try exact post.elim
  · rename_i i j
    unfold mulF at post
    by_cases hl : (-(2 ^ 64) < i ∧ i < 2 ^ 64) ∨ (-(2 ^ 64) < j ∧ j < 2 ^ 64)
    · simp only [if_pos hl] at post
      exact op_mul pins s σ0 H _ _ v u Q I rx ry ⟨_, _, rfl, rfl, hl, opt_ok S post (.int _)⟩
    · simp only [if_neg hl] at post; exact post.elim
  · rename_i a vs ds ha hl1 ra k
    unfold mulF at post
    by_cases hl : -(2 ^ 63) ≤ k ∧ k < 2 ^ 63 ∧ ds.length * k.toNat ≤ sizeLine
    · simp only [if_pos hl] at post
      have e1 := ra.length
      have rf := ra.flat k.toNat
      refine op_rep pins s σ0 H _ _ v u Q I rx ry ⟨_, _, _, rfl, rfl, S.sub _ _ ha, hl.1, hl.2.1, by rw [e1]; exact hl.2.2, new_lst S post rf ?_⟩
      rw [flat_len, e1, Nat.mul_comm]
      exact hl.2.2
    · simp only [if_neg hl] at post; exact post.elim
theorem opr_div (hK : kx.K = X.K) : OpR X (binaryOp .FloorDiv) (L2R kx divF) := by
  intro pins s σ0 H x y v u Q I rx ry h
  obtain ⟨Fr, R, as, δ, C, σ', dx, dy, S, px, py, post⟩ := h
  cases px <;> cases py <;> try exact post.elim
  rename_i i j
  unfold divF at post
  by_cases hl : 0 < j ∧ j < 1073741824
  · simp only [if_pos hl] at post
    exact op_fdiv pins s σ0 H _ _ v u Q I rx ry ⟨_, _, rfl, rfl, hl, opt_ok S post (.int _)⟩
  · simp only [if_neg hl] at post; exact post.elim
theorem opr_mod (hK : kx.K = X.K) : OpR X (binaryOp .Mod) (L2R kx modF) := by
  intro pins s σ0 H x y v u Q I rx ry h
  obtain ⟨Fr, R, as, δ, C, σ', dx, dy, S, px, py, post⟩ := h
  cases px <;> cases py <;> try exact post.elim
  rename_i i j
  unfold modF at post
  by_cases hl : 0 < j
  · simp only [if_pos hl] at post
    exact op_mod pins s σ0 H _ _ v u Q I rx ry ⟨_, _, rfl, rfl, hl, opt_ok S post (.int _)⟩
  · simp only [if_neg hl] at post; exact post.elim
theorem opr_pow (hK : kx.K = X.K) : OpR X (binaryOp .Pow) (L2R kx powF) := by
  intro pins s σ0 H x y v u Q I rx ry h
  obtain ⟨Fr, R, as, δ, C, σ', dx, dy, S, px, py, post⟩ := h
  cases px <;> cases py <;> try exact post.elim
  rename_i i j
  unfold powF at post
  by_cases hl : 0 ≤ j ∧ j ≤ 1000000 ∧ i.natAbs < 2 ^ 64
  · simp only [if_pos hl] at post
    exact op_pow pins s σ0 H _ _ v u Q I rx ry ⟨_, _, rfl, rfl, hl, opt_ok S post (.int _)⟩
  · simp only [if_neg hl] at post; exact post.elim
theorem opr_none {f : Value → Value → Sem Value} : OpR X f (L2R kx fun _ _ => none) := by
  intro pins s σ0 H x y v u Q I rx ry h
  obtain ⟨Fr, R, as, δ, C, σ', dx, dy, S, px, py, post⟩ := h
  exact post.elim
theorem opr_op (hK : kx.K = X.K) (op : Operator) : OpR X (binaryOp op) (L2R kx (opF op)) := by
  cases op
  · exact opr_add hK
  · exact opr_sub hK
  · exact opr_mul hK
  · exact opr_none
  · exact opr_none
  · exact opr_mod hK
  · exact opr_pow hK
  · exact opr_none
  · exact opr_none
  · exact opr_none
  · exact opr_none
  · exact opr_none
  · exact opr_div hK
def fOp (g : D → D → Option Res) (fa fb : EF D) : EF Res := bnd fa fun x => bnd fb fun y => opt (g x y)
theorem l2_of {a b : Expr} {g : D → D → Option Res} {fa fb : EF D} {Q : V → Hp → Prop} (h : Lft kx (PRes kx.K) (fOp g fa fb) σ H Q) :
    tOp (L2R kx g) (Lft kx (PD kx.K) fa) (Lft kx (PD kx.K) fb) σ H Q := by
  obtain ⟨Fr, R, as, δ, C, S, h⟩ := h
  refine lft_bnd S h fun R1 as1 C1 v x H1 g1 S1 px h1 => lft_bnd S1 h1 fun R2 as2 C2 u y H2 g2 S2 py h2 => ?_
  exact ⟨Fr, R2, as2, δ, C2, σ, x, y, S2, Rp.mono g2.1 px, py, h2⟩
theorem de_op {op : Operator} {a b : Expr} {g : D → D → Option Res} {fa fb : EF D} (ho : OpR X (binaryOp op) (L2R kx g)) (ha : DD X kx a fa) (hb : DD X kx b fb) : DE X kx (.BinOp a op b pos) (fOp g fa fb) :=
  weakE (pe_op ho ha hb) fun σ H Q h => l2_of (a := a) (b := b) h
end
end FL

/-! part FLd -/
set_option maxRecDepth 100000
set_option maxHeartbeats 4000007
/-! FL, part d: comparisons, tests, and / or / not, conditional expressions. -/
namespace FL
open L2 PyProof.Rows PySem.Spec PySem

def eqF : D → D → Option Bool
  | .non, .non => some true
  | .non, .int _ => some false
  | .int _, .non => some false
  | .non, .bl _ => some false
  | .bl _, .non => some false
  | .non, .str _ => some false
  | .str _, .non => some false
  | .int i, .int j => some (i == j)
  | .bl a, .bl b => some (a == b)
  | .str a, .str b => some (a == b)
  | .int _, .str _ => some false
  | .str _, .int _ => some false
  | .bl _, .str _ => some false
  | .str _, .bl _ => some false
  | _, _ => none
def neF (x y : D) : Option Bool := (eqF x y).map (!·)
def ltF : D → D → Option Bool
  | .int i, .int j => some (decide (i < j))
  | .str a, .str b => some (decide (a.cps.toList < b.cps.toList))
  | _, _ => none
def leF : D → D → Option Bool
  | .int i, .int j => some (decide (i ≤ j))
  | .str a, .str b => some (!decide (b.cps.toList < a.cps.toList))
  | _, _ => none
def gtF : D → D → Option Bool
  | .int i, .int j => some (decide (j < i))
  | .str a, .str b => some (decide (b.cps.toList < a.cps.toList))
  | _, _ => none
def geF : D → D → Option Bool
  | .int i, .int j => some (decide (j ≤ i))
  | .str a, .str b => some (!decide (a.cps.toList < b.cps.toList))
  | _, _ => none
def cmpF : CmpOp → D → D → Option Bool
  | .Eq => eqF
  | .NotEq => neF
  | .Lt => ltF
  | .LtE => leF
  | .Gt => gtF
  | .GtE => geF
  | _ => fun _ _ => none
def vB (g : D → D → Option Bool) : D → D → Option Res := fun x y => (g x y).map fun b => rd (.bl b)
section
variable {X : Cx} {kx : KX} {pos : Pos} {Fr R : Hp} {as : List Addr} {δ : Slots} {C : Store} {σ : L2.St} {H : Hp} {Q : V → Hp → Prop}
theorem dec_ne {x y : V} (h : x ≠ y) : decide (x = y) = false := decide_eq_false h
theorem opr_eq (hK : kx.K = X.K) : OpR X (compareOp .Eq) (L2R kx (vB eqF)) := by
  intro pins s σ0 H x y v u Q I rx ry h
  obtain ⟨Fr, R, as, δ, C, σ', dx, dy, S, px, py, post⟩ := h
  refine op_eq pins s σ0 H x y v u Q I rx ry ?_
  cases px <;> cases py <;> first
    | exact post.elim
    | exact ⟨rfl, opt_ok S post (.bl _)⟩
    | (refine ⟨rfl, ?_⟩; rw [dec_int]; exact opt_ok S post (.bl _))
    | (refine ⟨rfl, ?_⟩; rw [dec_bl]; exact opt_ok S post (.bl _))
    | (refine ⟨rfl, ?_⟩; rw [dec_str]; exact opt_ok S post (.bl _))
    | (refine ⟨rfl, ?_⟩; rw [dec_ne (fun z => by cases z)]; exact opt_ok S post (.bl _))
theorem opr_ne (hK : kx.K = X.K) : OpR X (compareOp .NotEq) (L2R kx (vB neF)) := by
  intro pins s σ0 H x y v u Q I rx ry h
  obtain ⟨Fr, R, as, δ, C, σ', dx, dy, S, px, py, post⟩ := h
  refine op_ne pins s σ0 H x y v u Q I rx ry ?_
  cases px <;> cases py <;> first
    | exact post.elim
    | exact ⟨rfl, opt_ok S post (.bl _)⟩
    | (refine ⟨rfl, ?_⟩; rw [dec_int]; exact opt_ok S post (.bl _))
    | (refine ⟨rfl, ?_⟩; rw [dec_bl]; exact opt_ok S post (.bl _))
    | (refine ⟨rfl, ?_⟩; rw [dec_str]; exact opt_ok S post (.bl _))
    | (refine ⟨rfl, ?_⟩; rw [dec_ne (fun z => by cases z)]; exact opt_ok S post (.bl _))
theorem opr_lt (hK : kx.K = X.K) : OpR X (compareOp .Lt) (L2R kx (vB ltF)) := by
  intro pins s σ0 H x y v u Q I rx ry h
  obtain ⟨Fr, R, as, δ, C, σ', dx, dy, S, px, py, post⟩ := h
  cases px <;> cases py <;> try exact post.elim
  · exact op_lt pins s σ0 H _ _ v u Q I rx ry ⟨_, _, rfl, rfl, opt_ok S post (.bl _)⟩
  · exact op_lt_str pins s σ0 H _ _ v u Q I rx ry ⟨_, _, rfl, rfl, opt_ok S post (.bl _)⟩
theorem opr_le (hK : kx.K = X.K) : OpR X (compareOp .LtE) (L2R kx (vB leF)) := by
  intro pins s σ0 H x y v u Q I rx ry h
  obtain ⟨Fr, R, as, δ, C, σ', dx, dy, S, px, py, post⟩ := h
  cases px <;> cases py <;> try exact post.elim
  · exact op_le pins s σ0 H _ _ v u Q I rx ry ⟨_, _, rfl, rfl, opt_ok S post (.bl _)⟩
  · exact op_le_str pins s σ0 H _ _ v u Q I rx ry ⟨_, _, rfl, rfl, opt_ok S post (.bl _)⟩
theorem opr_gt (hK : kx.K = X.K) : OpR X (compareOp .Gt) (L2R kx (vB gtF)) := by
  intro pins s σ0 H x y v u Q I rx ry h
  obtain ⟨Fr, R, as, δ, C, σ', dx, dy, S, px, py, post⟩ := h
  cases px <;> cases py <;> try exact post.elim
  · exact op_gt pins s σ0 H _ _ v u Q I rx ry ⟨_, _, rfl, rfl, opt_ok S post (.bl _)⟩
  · exact op_gt_str pins s σ0 H _ _ v u Q I rx ry ⟨_, _, rfl, rfl, opt_ok S post (.bl _)⟩
theorem opr_ge (hK : kx.K = X.K) : OpR X (compareOp .GtE) (L2R kx (vB geF)) := by
  intro pins s σ0 H x y v u Q I rx ry h
  obtain ⟨Fr, R, as, δ, C, σ', dx, dy, S, px, py, post⟩ := h
  cases px <;> cases py <;> try exact post.elim
  · exact op_ge pins s σ0 H _ _ v u Q I rx ry ⟨_, _, rfl, rfl, opt_ok S post (.bl _)⟩
  · exact op_ge_str pins s σ0 H _ _ v u Q I rx ry ⟨_, _, rfl, rfl, opt_ok S post (.bl _)⟩
theorem opr_cmp (hK : kx.K = X.K) (op : CmpOp) : OpR X (compareOp op) (L2R kx (vB (cmpF op))) := by
  cases op
  · exact opr_eq hK
  · exact opr_ne hK
  · exact opr_lt hK
  · exact opr_le hK
  · exact opr_gt hK
  · exact opr_ge hK
  · exact opr_none
  · exact opr_none
  · exact opr_none
  · exact opr_none
/-! ### the readings of comparisons -/
def fCmp (g : D → D → Option Bool) (fa fb : EF D) : EF Bool := bnd fa fun x => bnd fb fun y => opt (g x y)
/-- a truth as a value -/
def fB (f : EF Bool) : EF Res := bnd f fun b => ret (rd (.bl b))
theorem post_b {g : D → D → Option Bool} {x y : D} {Qb : Bool → Hp → Prop} (h : Post kx PB Fr R as δ σ Qb (opt (g x y) δ C)) :
    Post kx (PRes kx.K) Fr R as δ σ (fun z H' => ∃ k, z = .bl k ∧ Qb k H') (opt (vB g x y) δ C) := by
  unfold vB
  cases q : g x y with
  | none => rw [q] at h; exact h.elim
  | some b =>
    rw [q] at h
    intro R' as' v H' gr S p
    cases p
    exact ⟨_, rfl, h R' as' _ H' gr S rfl⟩
theorem l2b_of {a b : Expr} {g : D → D → Option Bool} {fa fb : EF D} {Qb : Bool → Hp → Prop} (h : Lft kx PB (fCmp g fa fb) σ H Qb) :
    tTest (tOp (L2R kx (vB g)) (Lft kx (PD kx.K) fa) (Lft kx (PD kx.K) fb)) σ H Qb := by
  obtain ⟨Fr, R, as, δ, C, S, h⟩ := h
  refine lft_bnd S h fun R1 as1 C1 v x H1 g1 S1 px h1 => lft_bnd S1 h1 fun R2 as2 C2 u y H2 g2 S2 py h2 => ?_
  exact ⟨Fr, R2, as2, δ, C2, σ, x, y, S2, Rp.mono g2.1 px, py, post_b h2⟩
theorem lft_fB {f : EF Bool} {t : TT} (h : ∀ σ H Qb, Lft kx PB f σ H Qb → t σ H Qb) {Q : V → Hp → Prop} (q : Lft kx (PRes kx.K) (fB f) σ H Q) : t σ H fun b H' => Q (.bl b) H' := by
  refine h σ H _ ?_
  obtain ⟨Fr, R, as, δ, C, S, q⟩ := q
  exact lft_bnd S q fun R1 as1 C1 b x H1 g1 S1 p h1 => by cases p; exact h1.ret S1 (.bl _)
theorem dt_cmp {op : CmpOp} {a b : Expr} {g : D → D → Option Bool} {fa fb : EF D} (ho : OpR X (compareOp op) (L2R kx (vB g))) (ha : DD X kx a fa) (hb : DD X kx b fb) (hm : behindInMarks op b = false) : DT X kx (.Compare a [op] [b] pos) (fCmp g fa fb) :=
  weakT (pt_cmpR ho ha hb hm) fun σ H Q h => l2b_of (a := a) (b := b) h
theorem de_cmp {op : CmpOp} {a b : Expr} {g : D → D → Option Bool} {fa fb : EF D} (ho : OpR X (compareOp op) (L2R kx (vB g))) (ha : DD X kx a fa) (hb : DD X kx b fb) (hm : behindInMarks op b = false) : DE X kx (.Compare a [op] [b] pos) (fB (fCmp g fa fb)) :=
  weakE (pe_cmpR ho ha hb hm) fun σ H Q h => by
    have q := lft_fB (t := tTest (tOp (L2R kx (vB g)) (Lft kx (PD kx.K) fa) (Lft kx (PD kx.K) fb))) (fun σ H Qb h => l2b_of (a := a) (b := b) h) h
    obtain ⟨Fr, R, as, δ, C, S, q⟩ := q
    refine ⟨Fr, R, as, δ, C, S, ?_⟩
    cases e : fa δ C with
    | none => rw [e] at q; exact q
    | some o =>
      rw [e] at q
      cases o with
      | exc _ _ _ => exact q
      | ok x C1 =>
        intro R1 as1 v H1 g1 S1 p1
        obtain ⟨Fr, R2, as2, δ2, C2, S2, q2⟩ := q R1 as1 v H1 g1 S1 p1
        refine ⟨Fr, R2, as2, δ2, C2, S2, ?_⟩
        cases e2 : fb δ2 C2 with
        | none => rw [e2] at q2; exact q2
        | some o2 =>
          rw [e2] at q2
          cases o2 with
          | exc _ _ _ => exact q2
          | ok y C3 =>
            intro R3 as3 u H3 g3 S3 p3
            obtain ⟨Fr, R4, as4, δ4, C4, σ4, dx, dy, S4, px, py, post⟩ := q2 R3 as3 u H3 g3 S3 p3
            refine ⟨Fr, R4, as4, δ4, C4, σ4, dx, dy, S4, px, py, ?_⟩
            cases e4 : vB g dx dy with
            | none => rw [e4] at post; exact post
            | some r =>
              rw [e4] at post
              intro R5 as5 w H5 g5 S5 p5
              obtain ⟨k, ek, qk⟩ := post R5 as5 w H5 g5 S5 p5
              rw [ek]
              exact qk
end
end FL

/-! part FLe -/
set_option maxRecDepth 100000
set_option maxHeartbeats 4000007
/-! FL, part e: chains, is None, in, and / or / not, conditional expressions, truth. -/
namespace FL
open L2 PyProof.Rows PySem.Spec PySem

theorem bnd_assoc {α β γ : Type} (f : EF α) (g : α → EF β) (h : β → EF γ) : bnd (bnd f g) h = bnd f fun x => bnd (g x) h := by
  funext δ C
  unfold bnd
  cases f δ C with
  | none => rfl
  | some o => cases o <;> rfl
theorem bnd_ret {α β : Type} (x : α) (g : α → EF β) : bnd (ret x) g = g x := rfl
theorem bnd_stuck {α β : Type} (g : α → EF β) : bnd stuck g = stuck := rfl
def fLook (r : Res) : EF Vw := fun _ C => match look r C with
  | some vw => some (.ok vw C)
  | none => none
section
variable {X : Cx} {kx : KX} {pos : Pos} {Fr R : Hp} {as : List Addr} {δ : Slots} {C : Store} {σ : L2.St} {H : Hp} {Q : V → Hp → Prop}
/-- behind a look -/
theorem post_look {α β : Type} {P : Hp → Hp → List Addr → Hp → β → α → Prop} {Qb : β → Hp → Prop} {r : Res} {v : V} {g : Vw → EF α} (S : StoreOk kx.K Fr R as C H) (p : PRes kx.K Fr R as H v r) (h : Post kx P Fr R as δ σ Qb (bnd (fLook r) g δ C)) :
    ∃ vw, VwOk kx.K R as H v vw ∧ Post kx P Fr R as δ σ Qb (g vw δ C) := by
  unfold bnd fLook at h
  cases q : look r C with
  | none => rw [q] at h; exact h.elim
  | some vw =>
    rw [q] at h
    exact ⟨vw, look_ok S p q, h⟩
theorem post_opt {α β : Type} {P : Hp → Hp → List Addr → Hp → β → α → Prop} {Qb : β → Hp → Prop} {o : Option α} (h : Post kx P Fr R as δ σ Qb (opt o δ C)) : ∃ x, o = some x ∧ Post kx P Fr R as δ σ Qb (ret x δ C) := by
  cases o with
  | none => exact h.elim
  | some x => exact ⟨x, rfl, h⟩
theorem post_bopt {α γ β : Type} {P : Hp → Hp → List Addr → Hp → β → α → Prop} {Qb : β → Hp → Prop} {o : Option γ} {g : γ → EF α} (h : Post kx P Fr R as δ σ Qb (bnd (opt o) g δ C)) : ∃ x, o = some x ∧ Post kx P Fr R as δ σ Qb (g x δ C) := by
  cases o with
  | none => exact h.elim
  | some x => exact ⟨x, rfl, h⟩
theorem ret_b {b : Bool} {Qb : Bool → Hp → Prop} (S : StOk kx.K Fr R as δ C σ H) (h : Post kx PB Fr R as δ σ Qb (ret b δ C)) : Qb b H := h R as b H (Grow.refl _ _) S rfl
theorem ret_d {d : D} {v : V} (S : StOk kx.K Fr R as δ C σ H) (h : Post kx (PRes kx.K) Fr R as δ σ Q (ret (rd d) δ C)) (p : Rp kx.K R v d) : Q v H := h R as v H (Grow.refl _ _) S p
/-- a truth as a value, behind a truth as a test -/
theorem post_fB {o : Option (Out Bool)} (h : Post kx (PRes kx.K) Fr R as δ σ Q (match o with
    | none => none
    | some (.exc e δ' C') => some (.exc e δ' C')
    | some (.ok b C') => some (.ok (rd (.bl b)) C'))) : Post kx PB Fr R as δ σ (fun b H' => Q (.bl b) H') o := by
  match o, h with
  | some (.exc e δ' C'), h => exact h
  | some (.ok b C'), h => exact fun R' as' b' H' g S p => by cases p; exact h R' as' _ H' g S (.bl _)

/-! ### chains -/
def fChain (g g' : D → D → Option Bool) (fa fb fc : EF D) : EF Bool := bnd fa fun x => bnd fb fun y => bnd (opt (g x y)) fun k => match k with
  | true => bnd fc fun z => opt (g' y z)
  | false => ret false
theorem chain_of {a b c : Expr} {g g' : D → D → Option Bool} {fa fb fc : EF D} {Qb : Bool → Hp → Prop} (h : Lft kx PB (fChain g g' fa fb fc) σ H Qb) :
    tTest (tChain (L2R kx (vB g)) (L2R kx (vB g')) (Lft kx (PD kx.K) fa) (Lft kx (PD kx.K) fb) (Lft kx (PD kx.K) fc)) σ H Qb := by
  obtain ⟨Fr, R, as, δ, C, S, h⟩ := h
  refine lft_bnd S h fun R1 as1 C1 v x H1 g1 S1 px h1 => lft_bnd S1 h1 fun R2 as2 C2 u y H2 g2 S2 py h2 => ?_
  obtain ⟨k, ek, h3⟩ := post_bopt h2
  refine ⟨Fr, R2, as2, δ, C2, σ, x, y, S2, Rp.mono g2.1 px, py, ?_⟩
  unfold vB
  rw [ek]
  intro R3 as3 z H3 g3 S3 p3
  cases p3
  refine ⟨k, rfl, ?_⟩
  have h3 := h3.grow g3
  cases k with
  | false =>
    rw [if_neg Bool.false_ne_true]
    exact ⟨_, rfl, ret_b S3 h3⟩
  | true =>
    rw [if_pos rfl]
    refine lft_bnd S3 h3 fun R4 as4 C4 w z' H4 g4 S4 pz h4 => ?_
    exact ⟨Fr, R4, as4, δ, C4, σ, y, z', S4, Rp.mono (g3.trans g4).1 py, pz, post_b h4⟩
theorem dt_chain {op op' : CmpOp} {a b c : Expr} {g g' : D → D → Option Bool} {fa fb fc : EF D} (ho : OpR X (compareOp op) (L2R kx (vB g))) (ho' : OpR X (compareOp op') (L2R kx (vB g'))) (ha : DD X kx a fa) (hb : DD X kx b fb) (hc : DD X kx c fc)
    (hm : lastMarks [op, op'] [b, c] = false) : DT X kx (.Compare a [op, op'] [b, c] pos) (fChain g g' fa fb fc) :=
  weakT (pt_chain ho ho' ha hb hc hm) fun σ H Q h => chain_of (a := a) (b := b) (c := c) h
theorem chainv_of {a b c : Expr} {g g' : D → D → Option Bool} {fa fb fc : EF D} (h : Lft kx (PRes kx.K) (fB (fChain g g' fa fb fc)) σ H Q) :
    tChain (L2R kx (vB g)) (L2R kx (vB g')) (Lft kx (PD kx.K) fa) (Lft kx (PD kx.K) fb) (Lft kx (PD kx.K) fc) σ H Q := by
  obtain ⟨Fr, R, as, δ, C, S, h⟩ := h
  simp only [fB, fChain, bnd_assoc] at h
  refine lft_bnd S h fun R1 as1 C1 v x H1 g1 S1 px h1 => lft_bnd S1 h1 fun R2 as2 C2 u y H2 g2 S2 py h2 => ?_
  obtain ⟨k, ek, h3⟩ := post_bopt h2
  refine ⟨Fr, R2, as2, δ, C2, σ, x, y, S2, Rp.mono g2.1 px, py, ?_⟩
  unfold vB
  rw [ek]
  intro R3 as3 z H3 g3 S3 p3
  cases p3
  refine ⟨k, rfl, ?_⟩
  have h3 := h3.grow g3
  cases k with
  | false =>
    rw [if_neg Bool.false_ne_true]
    exact ret_d S3 h3 (.bl _)
  | true =>
    rw [if_pos rfl]
    simp only [bnd_assoc] at h3
    refine lft_bnd S3 h3 fun R4 as4 C4 w z' H4 g4 S4 pz h4 => ?_
    refine ⟨Fr, R4, as4, δ, C4, σ, y, z', S4, Rp.mono (g3.trans g4).1 py, pz, ?_⟩
    obtain ⟨b, eb, h5⟩ := post_bopt h4
    show Post kx (PRes kx.K) Fr R4 as4 δ σ Q (opt ((g' y z').map fun b => rd (.bl b)) δ C4)
    rw [eb]
    exact h5
theorem de_chain {op op' : CmpOp} {a b c : Expr} {g g' : D → D → Option Bool} {fa fb fc : EF D} (ho : OpR X (compareOp op) (L2R kx (vB g))) (ho' : OpR X (compareOp op') (L2R kx (vB g'))) (ha : DD X kx a fa) (hb : DD X kx b fb) (hc : DD X kx c fc)
    (hm : lastMarks [op, op'] [b, c] = false) : DE X kx (.Compare a [op, op'] [b, c] pos) (fB (fChain g g' fa fb fc)) :=
  weakE (pe_chain ho ho' ha hb hc hm) fun σ H Q h => chainv_of (a := a) (b := b) (c := c) h

/-! ### is None -/
def isNon : Vw → Bool
  | .sc .non => true
  | _ => false
theorem isNon_ok {v : V} {vw : Vw} (h : VwOk kx.K R as H v vw) : decide (v = V.non) = FL.isNon vw := by
  cases vw with
  | sc x =>
    obtain ⟨p, s⟩ := h
    cases p <;> first | rfl | exact decide_eq_false (fun z => by cases z) | exact s.elim
  | str x => obtain ⟨e, _⟩ := h; subst e; rfl
  | lst ws => obtain ⟨a, vs, e, _⟩ := h; subst e; rfl
  | tup ds => obtain ⟨a, vs, e, _⟩ := h; subst e; rfl
  | scr ns => obtain ⟨a, e, _⟩ := h; subst e; rfl
  | dct kvs => obtain ⟨a, vs, e, _⟩ := h; subst e; rfl
def fIsN (neg : Bool) (fa : EF Res) : EF Bool := bnd fa fun r => bnd (fLook r) fun vw => ret (if neg then !FL.isNon vw else FL.isNon vw)
theorem de_isN {a : Expr} {fa : EF Res} {j p} (ha : DE X kx a fa) : DE X kx (.Compare a [.Is] [.Constant .none j p] pos) (fB (fIsN false fa)) :=
  weakE (pe_cmpR op_isN ha pe_non (nobehind _ (by decide) (by decide))) fun σ H Q ⟨Fr, R, as, δ, C, S, h⟩ => by
    simp only [fB, fIsN, bnd_assoc, bnd_ret] at h
    refine lft_bnd S h fun R1 as1 C1 v r H1 g1 S1 p1 h1 => ⟨rfl, ?_⟩
    obtain ⟨vw, ok, h2⟩ := post_look S1.toStoreOk p1 h1
    rw [isNon_ok ok]
    exact ret_d S1 h2 (.bl _)
theorem de_notN {a : Expr} {fa : EF Res} {j p} (ha : DE X kx a fa) : DE X kx (.Compare a [.IsNot] [.Constant .none j p] pos) (fB (fIsN true fa)) :=
  weakE (pe_cmpR op_notN ha pe_non (nobehind _ (by decide) (by decide))) fun σ H Q ⟨Fr, R, as, δ, C, S, h⟩ => by
    simp only [fB, fIsN, bnd_assoc, bnd_ret] at h
    refine lft_bnd S h fun R1 as1 C1 v r H1 g1 S1 p1 h1 => ⟨rfl, ?_⟩
    obtain ⟨vw, ok, h2⟩ := post_look S1.toStoreOk p1 h1
    rw [isNon_ok ok]
    exact ret_d S1 h2 (.bl _)
theorem dt_isN {a : Expr} {fa : EF Res} {j p} (ha : DE X kx a fa) : DT X kx (.Compare a [.Is] [.Constant .none j p] pos) (fIsN false fa) :=
  weakT (pt_cmpR op_isN ha pe_non (nobehind _ (by decide) (by decide))) fun σ H Q ⟨Fr, R, as, δ, C, S, h⟩ => by
    refine lft_bnd S h fun R1 as1 C1 v r H1 g1 S1 p1 h1 => ⟨rfl, _, rfl, ?_⟩
    obtain ⟨vw, ok, h2⟩ := post_look S1.toStoreOk p1 h1
    rw [isNon_ok ok]
    exact ret_b S1 h2
theorem dt_notN {a : Expr} {fa : EF Res} {j p} (ha : DE X kx a fa) : DT X kx (.Compare a [.IsNot] [.Constant .none j p] pos) (fIsN true fa) :=
  weakT (pt_cmpR op_notN ha pe_non (nobehind _ (by decide) (by decide))) fun σ H Q ⟨Fr, R, as, δ, C, S, h⟩ => by
    refine lft_bnd S h fun R1 as1 C1 v r H1 g1 S1 p1 h1 => ⟨rfl, _, rfl, ?_⟩
    obtain ⟨vw, ok, h2⟩ := post_look S1.toStoreOk p1 h1
    rw [isNon_ok ok]
    exact ret_b S1 h2

/-! ### truth -/
def truF : Vw → Option Bool
  | .sc .non => some false
  | .sc (.bl b) => some b
  | .sc (.int i) => some (i != 0)
  | .str x => some ((x.length : Int) != 0)
  | .lst ws => some (!ws.isEmpty)
  | .tup ds => some (!ds.isEmpty)
  | .scr ns => some (!ns.isEmpty)
  | .dct kvs => some (!kvs.isEmpty)
  | _ => none
theorem emp_len {α β : Type} {xs : List α} {ys : List β} (h : xs.length = ys.length) : xs.isEmpty = ys.isEmpty := by
  cases xs <;> cases ys <;> first | rfl | cases h
theorem RDk.length {K : PySem.W.Frag} : ∀ {vs : List (Key × V)} {ws : List (Key × D)}, RDk K R vs ws → vs.length = ws.length
  | _, _, .nil => rfl
  | _, _, .cons _ r => congrArg Nat.succ r.length
theorem truF_ok {v : V} {vw : Vw} {b : Bool} (h : VwOk kx.K R as H v vw) (e : truF vw = some b) : TruV kx.K v H b := by
  cases vw with
  | sc x =>
    obtain ⟨p, s⟩ := h
    cases p <;> first | (cases e; rfl) | exact s.elim
  | str x => obtain ⟨q, hl⟩ := h; subst q; cases e; exact ⟨hl, rfl⟩
  | lst ws => obtain ⟨a, vs, q, h1, h2, h3⟩ := h; subst q; cases e; exact .inl ⟨vs, SqL.of h1, by rw [emp_len h2.length]⟩
  | tup ds => obtain ⟨a, vs, q, h1, h2, h3⟩ := h; subst q; cases e; exact .inr (.inl ⟨vs, h1, by rw [emp_len h2.length]⟩)
  | scr ns => obtain ⟨a, q, h1, h2⟩ := h; subst q; cases e; exact .inl ⟨_, h1, by rw [emp_len (List.length_map ..)]⟩
  | dct kvs => obtain ⟨a, vs, q, h1, h2, h3⟩ := h; subst q; cases e; exact .inr (.inr ⟨vs, h1, by rw [emp_len h2.length]⟩)
def fTru (fa : EF Res) : EF Bool := bnd fa fun r => bnd (fLook r) fun vw => opt (truF vw)
theorem dt_tru {a : Expr} {fa : EF Res} (hK : kx.K = X.K) (ha : DE X kx a fa) (he : ∀ whole, isTrue a X.env whole = (do let v ← whole; standAt a.pos; holding [v] (truthy v))) : DT X kx a (fTru fa) :=
  weakT (pt_truth ha he) fun σ H Q ⟨Fr, R, as, δ, C, S, h⟩ => by
    refine lft_bnd S h fun R1 as1 C1 v r H1 g1 S1 p1 h1 => ?_
    obtain ⟨vw, ok, h2⟩ := post_look S1.toStoreOk p1 h1
    obtain ⟨b, e, h3⟩ := post_opt h2
    refine ⟨b, hK ▸ truF_ok ok e, ret_b S1 h3⟩

/-! ### and, or, not -/
def fAndT (fa fb : EF Bool) : EF Bool := bnd fa fun c => match c with
  | true => fb
  | false => ret false
def fOrT (fa fb : EF Bool) : EF Bool := bnd fa fun c => match c with
  | true => ret true
  | false => fb
def fNotT (fa : EF Bool) : EF Bool := bnd fa fun c => ret (!c)
theorem dt_not {a : Expr} {fa : EF Bool} (ha : DT X kx a fa) : DT X kx (.UnaryOp .Not a pos) (fNotT fa) :=
  weakT (pt_not ha) fun σ H Q ⟨Fr, R, as, δ, C, S, h⟩ => lft_bnd S h fun R1 as1 C1 b b' H1 g1 S1 p1 h1 => by cases p1; exact ret_b S1 h1
abbrev DTw (X : Cx) (kx : KX) (e : Expr) (f : EF Bool) : Prop := PW X e (Lft kx PB f)
theorem weakW {e : Expr} {t t' : TT} (h : PW X e t) (w : ∀ σ H Q, t' σ H Q → t σ H Q) : PW X e t' := ⟨fun wh pins s σ H Q I q => h.run wh pins s σ H Q I (w σ H Q q)⟩
theorem dw_and1 {a : Expr} {fa : EF Bool} (ha : DT X kx a fa) : DTw X kx (.BoolOp .And [a] pos) fa := pw_and1 ha
theorem dw_or1 {a : Expr} {fa : EF Bool} (ha : DT X kx a fa) : DTw X kx (.BoolOp .Or [a] pos) fa := pw_or1 ha
theorem dw_and {a b : Expr} {rest : List Expr} {fa fb : EF Bool} (ha : DT X kx a fa) (hb : DTw X kx (.BoolOp .And (b :: rest) pos) fb) : DTw X kx (.BoolOp .And (a :: b :: rest) pos) (fAndT fa fb) :=
  weakW (pw_and ha hb) fun σ H Q ⟨Fr, R, as, δ, C, S, h⟩ => lft_bnd S h fun R1 as1 C1 b b' H1 g1 S1 p1 h1 => by
    cases p1
    cases b with
    | true => rw [if_pos rfl]; exact ⟨Fr, R1, as1, δ, C1, S1, h1⟩
    | false => rw [if_neg Bool.false_ne_true]; exact ret_b S1 h1
theorem dw_or {a b : Expr} {rest : List Expr} {fa fb : EF Bool} (ha : DT X kx a fa) (hb : DTw X kx (.BoolOp .Or (b :: rest) pos) fb) : DTw X kx (.BoolOp .Or (a :: b :: rest) pos) (fOrT fa fb) :=
  weakW (pw_or ha hb) fun σ H Q ⟨Fr, R, as, δ, C, S, h⟩ => lft_bnd S h fun R1 as1 C1 b b' H1 g1 S1 p1 h1 => by
    cases p1
    cases b with
    | true => rw [if_pos rfl]; exact ret_b S1 h1
    | false => rw [if_neg Bool.false_ne_true]; exact ⟨Fr, R1, as1, δ, C1, S1, h1⟩
/-! as values: all but the last True or False -/
def fAndV (fa : EF D) (fb : EF Res) : EF Res := bnd fa fun x => match x with
  | .bl true => fb
  | .bl false => ret (rd (.bl false))
  | _ => stuck
def fOrV (fa : EF D) (fb : EF Res) : EF Res := bnd fa fun x => match x with
  | .bl true => ret (rd (.bl true))
  | .bl false => fb
  | _ => stuck
def fNotV (fa : EF D) : EF Res := bnd fa fun x => match x with
  | .bl b => ret (rd (.bl (!b)))
  | _ => stuck
theorem de_not {a : Expr} {fa : EF D} (ha : DD X kx a fa) : DE X kx (.UnaryOp .Not a pos) (fNotV fa) :=
  weakE (pe_not ha) fun σ H Q ⟨Fr, R, as, δ, C, S, h⟩ => lft_bnd S h fun R1 as1 C1 v d H1 g1 S1 p1 h1 => by
    cases p1 <;> first | exact h1.elim | exact ⟨_, rfl, ret_d S1 h1 (.bl _)⟩
theorem de_one {op : BoolOp} {a : Expr} {fa : EF Res} (ha : DE X kx a fa) : DE X kx (.BoolOp op [a] pos) fa := pe_one ha
theorem de_and {a b : Expr} {rest : List Expr} {fa : EF D} {fb : EF Res} (ha : DD X kx a fa) (hb : DE X kx (.BoolOp .And (b :: rest) pos) fb) : DE X kx (.BoolOp .And (a :: b :: rest) pos) (fAndV fa fb) :=
  weakE (pe_and ha hb) fun σ H Q ⟨Fr, R, as, δ, C, S, h⟩ => lft_bnd S h fun R1 as1 C1 v d H1 g1 S1 p1 h1 => by
    cases p1 <;> try exact h1.elim
    rename_i b
    refine ⟨_, rfl, ?_⟩
    cases b with
    | true => rw [if_pos rfl]; exact ⟨Fr, R1, as1, δ, C1, S1, h1⟩
    | false => rw [if_neg Bool.false_ne_true]; exact ret_d S1 h1 (.bl _)
theorem de_or {a b : Expr} {rest : List Expr} {fa : EF D} {fb : EF Res} (ha : DD X kx a fa) (hb : DE X kx (.BoolOp .Or (b :: rest) pos) fb) : DE X kx (.BoolOp .Or (a :: b :: rest) pos) (fOrV fa fb) :=
  weakE (pe_or ha hb) fun σ H Q ⟨Fr, R, as, δ, C, S, h⟩ => lft_bnd S h fun R1 as1 C1 v d H1 g1 S1 p1 h1 => by
    cases p1 <;> try exact h1.elim
    rename_i b
    refine ⟨_, rfl, ?_⟩
    cases b with
    | true => rw [if_pos rfl]; exact ret_d S1 h1 (.bl _)
    | false => rw [if_neg Bool.false_ne_true]; exact ⟨Fr, R1, as1, δ, C1, S1, h1⟩
/-! ### a if t else b -/
def fIte {α : Type} (fc : EF Bool) (fa fb : EF α) : EF α := bnd fc fun c => match c with
  | true => fa
  | false => fb
theorem de_ite {c a b : Expr} {fc : EF Bool} {fa fb : EF Res} (hc : DT X kx c fc) (ha : DE X kx a fa) (hb : DE X kx b fb) : DE X kx (.IfExp c a b pos) (fIte fc fa fb) :=
  weakE (pe_ifExp hc ha hb) fun σ H Q ⟨Fr, R, as, δ, C, S, h⟩ => lft_bnd S h fun R1 as1 C1 b b' H1 g1 S1 p1 h1 => by
    cases p1
    cases b with
    | true => rw [if_pos rfl]; exact ⟨Fr, R1, as1, δ, C1, S1, h1⟩
    | false => rw [if_neg Bool.false_ne_true]; exact ⟨Fr, R1, as1, δ, C1, S1, h1⟩
def fNeg (fa : EF D) : EF Res := bnd fa fun x => match x with
  | .int i => ret (rd (.int (-i)))
  | _ => stuck
theorem de_neg {a : Expr} {fa : EF D} (ha : DD X kx a fa) : DE X kx (.UnaryOp .USub a pos) (fNeg fa) :=
  weakE (pe_un un_neg ha) fun σ H Q ⟨Fr, R, as, δ, C, S, h⟩ => lft_bnd S h fun R1 as1 C1 v d H1 g1 S1 p1 h1 => by
    cases p1 <;> first | exact h1.elim | exact ⟨_, rfl, ret_d S1 h1 (.int _)⟩

/-! ### in -/
def flatD : D → Bool
  | .non => true
  | .bl _ => true
  | .int _ => true
  | .str _ => true
  | _ => false
def eqD : D → D → Bool
  | .non, .non => true
  | .bl a, .bl b => a == b
  | .bl a, .int b => (if a then 1 else 0) == b
  | .int a, .bl b => a == (if b then 1 else 0)
  | .int a, .int b => a == b
  | .str a, .str b => a == b
  | _, _ => false
def inD (x : D) (xs : List D) : Option Bool := if flatD x = true ∧ xs.all flatD = true then some (xs.any fun y => eqD y x) else none
def inF (x : D) : Vw → Option Bool
  | .str z => (match x with
    | .str y => (match y.cps.toList with
      | [c] => some (decide (c ∈ z.cps.toList))
      | _ => none)
    | _ => none)
  | .lst ds => inD x ds
  | .tup ds => inD x ds
  | _ => none
theorem flat_ok {v : V} {d : D} (p : Rp kx.K R v d) (h : flatD d = true) : flatV v = true := by
  cases p <;> first | rfl | cases h
theorem flatL_ok : ∀ {vs : List V} {ds : List D}, RpL kx.K R vs ds → ds.all flatD = true → vs.all flatV = true
  | _, _, .nil, _ => rfl
  | _, _, .cons p r, h => by
    rw [List.all_cons, Bool.and_eq_true] at h ⊢
    exact ⟨flat_ok p h.1, flatL_ok r h.2⟩
theorem eqD_ok {v u : V} {d e : D} (p : Rp kx.K R v d) (q : Rp kx.K R u e) : eqV v u = eqD d e := by
  cases p <;> cases q <;> rfl
theorem inD_any {u : V} {e : D} (q : Rp kx.K R u e) : ∀ {vs : List V} {ds : List D}, RpL kx.K R vs ds → inV u vs = (ds.any fun y => eqD y e)
  | _, _, .nil => rfl
  | _, _, .cons p r => by
    have ih := inD_any q r
    unfold inV at ih ⊢
    rw [List.any_cons, List.any_cons, eqD_ok p q, ih]
def fIn (neg : Bool) (fa : EF D) (fb : EF Res) : EF Bool := bnd fa fun x => bnd fb fun r => bnd (fLook r) fun vw => bnd (opt (inF x vw)) fun b => ret (if neg then !b else b)
/-- the reading of in, not in, by values -/
def rInAll (K : PySem.W.Frag) (neg : Bool) : R2 := fun x y H Q => rIn K neg x y H Q ∨ ∃ (c : Nat) (z : Str), x = .str ⟨#[c]⟩ ∧ y = .str z ∧ Q (.bl (if neg then !decide (c ∈ z.cps.toList) else decide (c ∈ z.cps.toList))) H
theorem opr_in : OpR X (compareOp .In) (rInAll X.K false) := OpR.or op_in_seq op_in_sign
theorem opr_notin : OpR X (compareOp .NotIn) (rInAll X.K true) := OpR.or op_notIn_seq op_notIn_sign
theorem in_ok {neg : Bool} {x : D} {vw : Vw} {b : Bool} {u v : V} {Q : V → Hp → Prop} (s : Sub R H) (p : Rp kx.K R u x) (ok : VwOk kx.K R as H v vw) (e : inF x vw = some b) (q : Q (.bl (if neg then !b else b)) H) : rInAll kx.K neg u v H Q := by
  cases vw with
  | str z =>
    obtain ⟨ev, _⟩ := ok
    subst ev
    cases p <;> try cases e
    rename_i y hy
    have e : (match y.cps.toList with
      | [c] => some (decide (c ∈ z.cps.toList))
      | _ => none) = some b := e
    refine .inr ?_
    obtain ⟨l⟩ := y
    obtain ⟨l⟩ := l
    match l, e with
    | [c], e =>
      cases e
      exact ⟨c, z, rfl, rfl, q⟩
  | lst ws =>
    obtain ⟨a, vs, ev, h1, h2, h3⟩ := ok
    subst ev
    have e : inD x ws = some b := e
    unfold inD at e
    split at e
    · rename_i hf
      cases e
      exact .inl ⟨a, vs, rfl, .inl (SqL.of h1), flat_ok p hf.1, flatL_ok h2 hf.2, by rw [inD_any p h2]; exact q⟩
    · cases e
  | tup ds =>
    obtain ⟨a, vs, ev, h1, h2, h3⟩ := ok
    subst ev
    have e : inD x ds = some b := e
    unfold inD at e
    split at e
    · rename_i hf
      cases e
      exact .inl ⟨a, vs, rfl, .inr h1, flat_ok p hf.1, flatL_ok h2 hf.2, by rw [inD_any p h2]; exact q⟩
    · cases e
  | _ => cases e
theorem dt_in {neg : Bool} {op : CmpOp} (ho : OpR X (compareOp op) (rInAll X.K neg)) (hK : kx.K = X.K) {a b : Expr} {fa : EF D} {fb : EF Res} (ha : DD X kx a fa) (hb : DE X kx b fb) (hm : behindInMarks op b = false) : DT X kx (.Compare a [op] [b] pos) (fIn neg fa fb) :=
  weakT (pt_cmpR ho ha hb hm) fun σ H Q ⟨Fr, R, as, δ, C, S, h⟩ =>
    lft_bnd S h fun R1 as1 C1 v x H1 g1 S1 px h1 => lft_bnd S1 h1 fun R2 as2 C2 u r H2 g2 S2 pr h2 => by
      obtain ⟨vw, ok, h3⟩ := post_look S2.toStoreOk pr h2
      obtain ⟨k, e, h4⟩ := post_bopt h3
      exact hK ▸ in_ok S2.sub (Rp.mono g2.1 px) ok e ⟨_, rfl, ret_b S2 h4⟩
theorem de_in {neg : Bool} {op : CmpOp} (ho : OpR X (compareOp op) (rInAll X.K neg)) (hK : kx.K = X.K) {a b : Expr} {fa : EF D} {fb : EF Res} (ha : DD X kx a fa) (hb : DE X kx b fb) (hm : behindInMarks op b = false) : DE X kx (.Compare a [op] [b] pos) (fB (fIn neg fa fb)) :=
  weakE (pe_cmpR ho ha hb hm) fun σ H Q ⟨Fr, R, as, δ, C, S, h⟩ => by
    simp only [fB, fIn, bnd_assoc, bnd_ret] at h
    exact lft_bnd S h fun R1 as1 C1 v x H1 g1 S1 px h1 => lft_bnd S1 h1 fun R2 as2 C2 u r H2 g2 S2 pr h2 => by
      obtain ⟨vw, ok, h3⟩ := post_look S2.toStoreOk pr h2
      obtain ⟨k, e, h4⟩ := post_bopt h3
      exact hK ▸ in_ok S2.sub (Rp.mono g2.1 px) ok e (ret_d S2 h4 (.bl _))
end
end FL

/-! part FLf -/
set_option maxRecDepth 100000
set_option maxHeartbeats 4000007
/-! FL, part f: subscripts, slices, displays, calls of built-ins. -/
namespace FL
open L2 PyProof.Rows PySem.Spec PySem

/-! ### a value that stays: what is new is held for good -/
def resF : Res → EF W
  | .w x => ret x
  | .new c => bnd (resD (.new c)) fun d => ret (.d d)
section
variable {X : Cx} {kx : KX} {pos : Pos} {Fr R : Hp} {as : List Addr} {δ : Slots} {C : Store} {σ : L2.St} {H : Hp} {Q : V → Hp → Prop}
theorem res_f {v : V} {r : Res} (S : StOk kx.K Fr R as δ C σ H) (p : PRes kx.K Fr R as H v r) (h : Post kx (PW' kx.K) Fr R as δ σ Q (resF r δ C)) : Q v H := by
  match r, p, h with
  | .w x, p, h => exact h.ret S p
  | .new c, p, h =>
    have h : Post kx (PW' kx.K) Fr R as δ σ Q (bnd (resD (.new c)) (fun d => ret (.d d)) δ C) := h
    refine res_d (r := .new c) S p ?_
    unfold bnd at h
    cases e : resD (.new c) δ C with
    | none => rw [e] at h; exact h.elim
    | some o =>
      rw [e] at h
      cases o with
      | exc _ _ _ => exact h
      | ok x C' => exact fun R' as' b H' g S' p' => h R' as' b H' g S' p'
theorem df_of {e : Expr} {f : EF Res} (h : DE X kx e f) : DW X kx e (bnd f resF) := weakE h fun σ H Q q => lft_imp q fun Fr R as δ C1 b x H1 S p z => res_f S p z
theorem PW'.res {v : V} {w : W} (p : PW' kx.K Fr R as H v w) : PRes kx.K Fr R as H v (.w w) := p

/-! ### items -/
def ixF : Vw → D → Option Res
  | .lst ds, .int i => (atI ds i).map rd
  | .tup ds, .int i => (atI ds i).map rd
  | .scr ns, .int i => (atI ns i).map fun n => rd (.int n)
  | .str z, .int i => (atI z.cps.toList i).map fun c => rd (.str ⟨#[c]⟩)
  | _, _ => none
def fIx (fa : EF Res) (fb : EF D) : EF Res := bnd (bnd fa resF) fun w => bnd fb fun y => bnd (fLook (.w w)) fun vw => opt (ixF vw y)
theorem atI_rpl {vs : List V} {ws : List D} {i : Int} {w : D} (r : RpL kx.K R vs ws) (h : atI ws i = some w) : ∃ v, atI vs i = some v ∧ Rp kx.K R v w := by
  unfold atI at h ⊢
  rw [← r.length] at h
  cases e : ixN vs.length i with
  | none => rw [e] at h; cases h
  | some j => rw [e] at h; exact r.get h
theorem atI_map {α β : Type} (f : α → β) {xs : List α} {i : Int} {x : α} (h : atI xs i = some x) : atI (xs.map f) i = some (f x) := by
  unfold atI at h ⊢
  rw [List.length_map]
  cases e : ixN xs.length i with
  | none => rw [e] at h; cases h
  | some j =>
    rw [e] at h
    have h : xs[j]? = some x := h
    show (xs.map f)[j]? = _
    rw [List.getElem?_map, h]
    rfl
theorem de_ix {a b : Expr} {fa : EF Res} {fb : EF D} (hK : kx.K = X.K) (ha : DE X kx a fa) (hb : DD X kx b fb) (hs : PlainIx b) : DE X kx (.Subscript a b pos) (fIx fa fb) :=
  weakE (pe_ix ix_seq (df_of ha) hb hs) fun σ H Q ⟨Fr, R, as, δ, C, S, h⟩ =>
    lft_bnd S h fun R1 as1 C1 v w H1 g1 S1 pw h1 => lft_bnd S1 h1 fun R2 as2 C2 u y H2 g2 S2 py h2 => by
      obtain ⟨K, XR, Wx⟩ := kx
      cases hK
      obtain ⟨vw, ok, h3⟩ := post_look S2.toStoreOk (PW'.res (RW.mono g2 pw)) h2
      obtain ⟨r, e, h4⟩ := post_opt h3
      cases vw with
      | lst ws =>
        obtain ⟨p, vs, ev, q1, q2, q3⟩ := ok
        cases py <;> try cases e
        rename_i i
        have e : (atI ws i).map rd = some r := e
        cases e1 : atI ws i with
        | none => rw [e1] at e; cases e
        | some w1 =>
          rw [e1] at e; cases e
          obtain ⟨v1, e2, r2⟩ := atI_rpl q2 e1
          exact .inl ⟨p, vs, i, v1, ev, rfl, SqL.of q1, e2, opt_ok S2 h4 r2⟩
      | tup ds =>
        obtain ⟨p, vs, ev, q1, q2, q3⟩ := ok
        cases py <;> try cases e
        rename_i i
        have e : (atI ds i).map rd = some r := e
        cases e1 : atI ds i with
        | none => rw [e1] at e; cases e
        | some w1 =>
          rw [e1] at e; cases e
          obtain ⟨v1, e2, r2⟩ := atI_rpl q2 e1
          exact .inr (.inl ⟨p, vs, i, v1, ev, rfl, q1, e2, opt_ok S2 h4 r2⟩)
      | scr ns =>
        obtain ⟨p, ev, q1, q2⟩ := ok
        cases py <;> try cases e
        rename_i i
        have e : (atI ns i).map (fun n => rd (.int n)) = some r := e
        cases e1 : atI ns i with
        | none => rw [e1] at e; cases e
        | some w1 =>
          rw [e1] at e; cases e
          exact .inl ⟨p, _, i, _, ev, rfl, q1, atI_map V.int e1, opt_ok S2 h4 (.int _)⟩
      | str z =>
        obtain ⟨ev, q2⟩ := ok
        cases py <;> try cases e
        rename_i i
        have e : (atI z.cps.toList i).map (fun c => rd (.str ⟨#[c]⟩)) = some r := e
        cases e1 : atI z.cps.toList i with
        | none => rw [e1] at e; cases e
        | some c =>
          rw [e1] at e; cases e
          exact .inr (.inr ⟨z, i, c, ev, rfl, q2, e1, opt_ok S2 h4 (.str _ (by show 1 ≤ sizeLine; decide))⟩)
      | _ => cases e

/-! ### slices -/
def cutG {α : Type} (xs : List α) (lo hi : Option Int) : List α := (xs.drop (HT.sIx xs.length 0 lo)).take (HT.sIx xs.length xs.length hi - HT.sIx xs.length 0 lo)
theorem cutG_len {α : Type} (xs : List α) (lo hi : Option Int) : (cutG xs lo hi).length ≤ xs.length := by
  unfold cutG
  rw [List.length_take, List.length_drop]
  omega
theorem cut_rpl {vs : List V} {ws : List D} (r : RpL kx.K R vs ws) (lo hi : Option Int) : RpL kx.K R (cutV vs lo hi) (cutG ws lo hi) := by
  unfold cutV cutG
  rw [← r.length]
  exact (r.drop _).take _
theorem cut_map {ns : List Int} (lo hi : Option Int) : cutV (ns.map V.int) lo hi = (cutG ns lo hi).map V.int := by
  unfold cutV cutG
  rw [List.length_map, List.map_take, List.map_drop]
def slF : Vw → Option Int → Option Int → Option Res
  | .lst ds, lo, hi => some (.new (.lst (cutG ds lo hi)))
  | .tup ds, lo, hi => some (rd (.tup (cutG ds lo hi)))
  | .scr ns, lo, hi => some (.new (.lst ((cutG ns lo hi).map D.int)))
  | .str z, lo, hi => some (rd (.str (cutS z lo hi)))
  | _, _, _ => none
def asI : D → Option Int
  | .int i => some i
  | _ => none
def fPart (f : EF D) : EF (Option Int) := bnd f fun x => bnd (opt (asI x)) fun i => ret (some i)
def PO' (_ _ : Hp) (_ : List Addr) (_ : Hp) (o o' : Option Int) : Prop := o = o'
abbrev DO (X : Cx) (kx : KX) (e : Option Expr) (f : EF (Option Int)) : Prop := PO X e (Lft kx PO' f)
theorem do_none : DO X kx none (ret none) := by
  refine ⟨fun pins s σ H Q I ⟨Fr, R, as, δ, C, S, h⟩ => ?_⟩
  exact po_none.run pins s σ H Q I (h R as none H (Grow.refl _ _) S rfl)
theorem do_some {e : Expr} {f : EF D} (h : DD X kx e f) : DO X kx (some e) (fPart f) := by
  refine ⟨fun pins s σ H Q I ⟨Fr, R, as, δ, C, S, q⟩ => ?_⟩
  refine (po_some h).run pins s σ H Q I (lft_bnd S q fun R1 as1 C1 v x H1 g1 S1 px h1 => ?_)
  obtain ⟨i, e, h2⟩ := post_bopt h1
  cases px <;> try cases e
  exact ⟨_, rfl, h2 R1 as1 _ H1 (Grow.refl _ _) S1 rfl⟩
def fSl (fa : EF Res) (fl fh : EF (Option Int)) : EF Res := bnd (bnd fa resF) fun w => bnd fl fun lo => bnd fh fun hi => bnd (fLook (.w w)) fun vw => opt (slF vw lo hi)
def rSlAll (K : PySem.W.Frag) : V → Option Int → Option Int → Hp → VK → Prop := fun x lo hi H Q => rSlL K x lo hi H Q ∨ rSlA K x lo hi H Q ∨ rSlS x lo hi H Q
theorem sl_all : SlR X (rSlAll X.K) := SlR.or sl_list (SlR.or sl_tupA sl_str)
theorem de_sl {a : Expr} {lo hi : Option Expr} {p2 : Pos} {fa : EF Res} {fl fh : EF (Option Int)} (hK : kx.K = X.K) (ha : DE X kx a fa) (hl : DO X kx lo fl) (hh : DO X kx hi fh) : DE X kx (.Subscript a (.Slice lo hi none p2) pos) (fSl fa fl fh) :=
  weakE (pe_slice sl_all (df_of ha) hl hh) fun σ H Q ⟨Fr, R, as, δ, C, S, h⟩ =>
    lft_bnd S h fun R1 as1 C1 v w H1 g1 S1 pw h1 => lft_bnd S1 h1 fun R2 as2 C2 l l' H2 g2 S2 pl h2 => lft_bnd S2 h2 fun R3 as3 C3 u u' H3 g3 S3 pu h3 => by
      obtain ⟨K, XR, Wx⟩ := kx
      cases hK
      cases pl
      cases pu
      obtain ⟨vw, ok, h3⟩ := post_look S3.toStoreOk (PW'.res (RW.mono (g2.trans g3) pw)) h3
      obtain ⟨r, e, h4⟩ := post_opt h3
      cases vw with
      | lst ws =>
        obtain ⟨p, vs, ev, q1, q2, q3⟩ := ok
        cases e
        exact .inl ⟨p, vs, ev, SqL.of q1, new_lst S3 h4 (cut_rpl q2 _ _) (Nat.le_trans (cutV_length ..) q3)⟩
      | tup ds =>
        obtain ⟨p, vs, ev, q1, q2, q3⟩ := ok
        cases e
        refine .inr (.inl ⟨p, vs, ev, q1, fun z => ?_, fun _ => new_tup S3 h4 (cut_rpl q2 _ _) (Nat.le_trans (cutV_length ..) q3.1)⟩)
        subst ev
        refine opt_ok S3 h4 ?_
        have e2 : cutG ds l u = ds := by
          unfold cutG
          rw [← q2.length, z.1, z.2, Nat.sub_zero, List.drop_zero, q2.length, List.take_length]
        rw [e2]
        exact Rp.tup q3.2 q3.1 q2
      | scr ns =>
        obtain ⟨p, ev, q1, q2⟩ := ok
        cases e
        refine .inl ⟨p, _, ev, q1, ?_⟩
        rw [cut_map]
        exact new_lst S3 h4 (rpInts _) (by rw [List.length_map]; exact Nat.le_trans (cutG_len ..) q2)
      | str z =>
        obtain ⟨ev, q2⟩ := ok
        cases e
        refine .inr (.inr ⟨z, ev, q2, opt_ok S3 h4 (.str _ ?_)⟩)
        show (((z.cps.toList.drop (HT.sIx z.length 0 l)).take (HT.sIx z.length z.length u - HT.sIx z.length 0 l)).toArray).size ≤ sizeLine
        have : (cutG z.cps.toList l u).length ≤ z.cps.toList.length := cutG_len ..
        simp only [List.size_toArray, List.length_take, List.length_drop, Array.length_toList] at *
        have q2 : z.cps.size ≤ sizeLine := q2
        omega
      | _ => cases e
end
end FL

/-! part FLg -/
set_option maxRecDepth 100000
set_option maxHeartbeats 4000007
/-! FL, part g: argument lists, displays, calls of built-ins, isinstance. -/
namespace FL
open L2 PyProof.Rows PySem.Spec PySem

/-! ### argument lists -/
def fNil {α : Type} : EF (List α) := ret []
def fCons {α : Type} (fa : EF α) (fs : EF (List α)) : EF (List α) := bnd fa fun x => bnd fs fun xs => ret (x :: xs)
section
variable {X : Cx} {kx : KX} {pos : Pos} {Fr R : Hp} {as : List Addr} {δ : Slots} {C : Store} {σ : L2.St} {H : Hp} {Q : V → Hp → Prop} {e : Expr} {es : List Expr}
theorem da_nil : DA X kx [] fNil := weakA pa_nil fun σ H Q ⟨Fr, R, as, δ, C, S, h⟩ => h R as [] H (Grow.refl _ _) S .nil
theorem da_cons {fa : EF D} {fs : EF (List D)} (ha : DD X kx e fa) (hr : DA X kx es fs) (hs : starEach (e :: es) X.env = (false, eval e X.env) :: starEach es X.env) : DA X kx (e :: es) (fCons fa fs) :=
  weakA (pa_cons ha hr hs) fun σ H Q ⟨Fr, R, as, δ, C, S, h⟩ => lft_bnd S h fun R1 as1 C1 v x H1 g1 S1 px h1 => lft_bnd S1 h1 fun R2 as2 C2 vs xs H2 g2 S2 ps h2 =>
    h2 R2 as2 _ H2 (Grow.refl _ _) S2 (.cons (Rp.mono g2.1 px) ps)
theorem dw_nil : DAw X kx [] fNil := weakA pa_nil fun σ H Q ⟨Fr, R, as, δ, C, S, h⟩ => h R as [] H (Grow.refl _ _) S .nil
theorem dw_cons {fa : EF W} {fs : EF (List W)} (ha : DW X kx e fa) (hr : DAw X kx es fs) (hs : starEach (e :: es) X.env = (false, eval e X.env) :: starEach es X.env) : DAw X kx (e :: es) (fCons fa fs) :=
  weakA (pa_cons ha hr hs) fun σ H Q ⟨Fr, R, as, δ, C, S, h⟩ => lft_bnd S h fun R1 as1 C1 v x H1 g1 S1 px h1 => lft_bnd S1 h1 fun R2 as2 C2 vs xs H2 g2 S2 ps h2 =>
    h2 R2 as2 _ H2 (Grow.refl _ _) S2 (.cons (RW.mono g2 px) ps)
theorem dwd_of {f : EF D} (h : DD X kx e f) : DW X kx e (bnd f fun d => ret (.d d)) := weakE h fun σ H Q q => lft_imp q fun Fr R as δ C1 b x H1 S p z => z R as b H1 (Grow.refl _ _) S p
/-- one argument, as it comes -/
def PL1 (K : PySem.W.Frag) (Fr R : Hp) (as : List Addr) (H : Hp) (vs : List V) (r : Res) : Prop := ∃ v, vs = [v] ∧ PRes K Fr R as H v r
theorem da_one {f : EF Res} (h : DE X kx e f) (hs : starEach [e] X.env = (false, eval e X.env) :: starEach [] X.env) : PA X [e] (Lft kx (PL1 kx.K) f) :=
  weakA (pa_cons h pa_nil hs) fun σ H Q ⟨Fr, R, as, δ, C, S, q⟩ => ⟨Fr, R, as, δ, C, S, by
    cases e : f δ C with
    | none => rw [e] at q; exact q
    | some o =>
      rw [e] at q
      cases o with
      | exc _ _ _ => exact q
      | ok x C1 => exact fun R' as' v H' g S' p => q R' as' [v] H' g S' ⟨v, rfl, p⟩⟩

/-! ### displays -/
def sz {α : Type} (ds : List α) : Prop := ds.length ≤ sizeLine
instance {α : Type} (ds : List α) : Decidable (sz ds) := inferInstanceAs (Decidable (_ ≤ _))
def fTup (fs : EF (List D)) : EF Res := bnd fs fun ds => if sz ds then ret (rd (.tup ds)) else stuck
def fLst (fs : EF (List D)) : EF Res := bnd fs fun ds => if sz ds then ret (.new (.lst ds)) else stuck
theorem de_tup {k : Nat} {fs : EF (List D)} (h : DA X kx es fs) : DE X kx (.Tuple es k pos) (fTup fs) :=
  weakE (pe_tup h) fun σ H Q ⟨Fr, R, as, δ, C, S, h⟩ => lft_bnd S h fun R1 as1 C1 vs ds H1 g1 S1 ps h1 => by
    have e := ps.length
    by_cases hl : sz ds
    · simp only [if_pos hl] at h1
      exact ⟨by rw [e]; exact hl, new_tup S1 h1 ps (by rw [e]; exact hl)⟩
    · simp only [if_neg hl] at h1; exact h1.elim
theorem de_lst {fs : EF (List D)} (h : DA X kx es fs) : DE X kx (.List es pos) (fLst fs) :=
  weakE (pe_lst h) fun σ H Q ⟨Fr, R, as, δ, C, S, h⟩ => lft_bnd S h fun R1 as1 C1 vs ds H1 g1 S1 ps h1 => by
    have e := ps.length
    by_cases hl : sz ds
    · simp only [if_pos hl] at h1
      exact ⟨by rw [e]; exact hl, new_lst S1 h1 ps (by rw [e]; exact hl)⟩
    · simp only [if_neg hl] at h1; exact h1.elim

/-! ### built-ins of one argument -/
/-- the reading of a call with one argument that is looked at -/
def L1R (kx : KX) (g : Vw → Option Res) : List V → Hp → VK → Prop := fun xs H Q => ∃ Fr R as δ C σ v vw, xs = [v] ∧ StOk kx.K Fr R as δ C σ H ∧ VwOk kx.K R as H v vw ∧ Post kx (PRes kx.K) Fr R as δ σ Q (opt (g vw) δ C)
def fCall1 (g : Vw → Option Res) (fa : EF Res) : EF Res := bnd fa fun r => bnd (fLook r) fun vw => opt (g vw)
theorem l1_of {t : TA} {g : Vw → Option Res} {fa : EF Res} (h : Lft kx (PRes kx.K) (fCall1 g fa) σ H Q) (ht : ∀ Q', Lft kx (PL1 kx.K) fa σ H Q' → t σ H Q') : tCB (L1R kx g) t σ H Q := by
  obtain ⟨Fr, R, as, δ, C, S, h⟩ := h
  refine ht _ (lft_bnd S h fun R1 as1 C1 vs r H1 g1 S1 pr h1 => ?_)
  obtain ⟨v, rfl, p⟩ := pr
  obtain ⟨vw, ok, h2⟩ := post_look S1.toStoreOk p h1
  exact ⟨Fr, R1, as1, δ, C1, σ, v, vw, rfl, S1, ok, h2⟩
theorem de_callB {x : Str} {p : Pos} {id : String} {g : Vw → Option Res} {fa : EF Res} (hc : CallR X (.builtin id) (L1R kx g)) (hg : Gl X x) (hm : X.mg x = none) (hv : bootBuiltins x = some (.builtin id)) (ha : DE X kx e fa)
    (hn : x ≠ "__name__") (hdb : (x == ("__debug__" : Str)) = false) (he : starEach [e] X.env = (false, eval e X.env) :: starEach [] X.env) : DE X kx (.Call (.Name x p) [e] [] pos) (fCall1 g fa) :=
  weakE (pe_callB hc hg hm hv (da_one ha he) hn hdb he rfl) fun σ H Q h => l1_of h fun Q' q => q
theorem de_callTy {x : Str} {p : Pos} {T : String} {g : Vw → Option Res} {fa : EF Res} (hc : CallR X (.type T) (L1R kx g)) (hg : Gl X x) (hm : X.mg x = none) (hv : bootBuiltins x = some (.type T)) (ha : DE X kx e fa)
    (hn : x ≠ "__name__") (hdb : (x == ("__debug__" : Str)) = false) (he : starEach [e] X.env = (false, eval e X.env) :: starEach [] X.env) : DE X kx (.Call (.Name x p) [e] [] pos) (fCall1 g fa) :=
  weakE (pe_callTy hc hg hm hv (da_one ha he) hn hdb he rfl) fun σ H Q h => l1_of h fun Q' q => q

def lenF : Vw → Option Res
  | .lst ws => some (rd (.int ws.length))
  | .tup ds => some (rd (.int ds.length))
  | .scr ns => some (rd (.int ns.length))
  | .str x => some (rd (.int x.length))
  | _ => none
theorem cr_len (hK : kx.K = X.K) : CallR X (.builtin "len") (L1R kx lenF) := by
  intro pins s σ0 H xs us Q I r h
  obtain ⟨Fr, R, as, δ, C, σ', v, vw, rfl, S, ok, post⟩ := h
  obtain ⟨K, XR, Wx⟩ := kx
  cases hK
  cases vw <;> try exact post.elim
  · obtain ⟨ev, hl⟩ := ok; subst ev
    exact call_len pins s σ0 H _ us Q I r ⟨_, _, rfl, ⟨hl, rfl⟩, opt_ok S post (.int _)⟩
  · obtain ⟨a, vs, ev, q1, q2, q3⟩ := ok; subst ev
    exact call_len pins s σ0 H _ us Q I r ⟨_, _, rfl, .inl ⟨vs, SqL.of q1, rfl⟩, opt_ok S post (by rw [q2.length]; exact .int _)⟩
  · obtain ⟨a, vs, ev, q1, q2, q3⟩ := ok; subst ev
    exact call_len pins s σ0 H _ us Q I r ⟨_, _, rfl, .inr ⟨vs, q1, rfl⟩, opt_ok S post (by rw [q2.length]; exact .int _)⟩
  · obtain ⟨a, ev, q1, q2⟩ := ok; subst ev
    exact call_len pins s σ0 H _ us Q I r ⟨_, _, rfl, .inl ⟨_, q1, rfl⟩, opt_ok S post (by rw [List.length_map]; exact .int _)⟩
def intF : Vw → Option Res
  | .sc (.int i) => some (rd (.int i))
  | .sc (.bl b) => some (rd (.int (if b then 1 else 0)))
  | _ => none
theorem cr_int (hK : kx.K = X.K) : CallR X (.type "int") (L1R kx intF) := by
  intro pins s σ0 H xs us Q I r h
  obtain ⟨Fr, R, as, δ, C, σ', v, vw, rfl, S, ok, post⟩ := h
  cases vw <;> try exact post.elim
  obtain ⟨p, sc⟩ := ok
  cases p <;> try exact post.elim
  · exact call_int1 pins s σ0 H _ us Q I r (.inr ⟨_, rfl, opt_ok S post (.int _)⟩)
  · exact call_int1 pins s σ0 H _ us Q I r (.inl ⟨_, rfl, opt_ok S post (.int _)⟩)
def asBs : List D → Option (List Bool)
  | [] => some []
  | .bl b :: ds => (asBs ds).map (b :: ·)
  | _ :: _ => none
theorem asBs_ok : ∀ {ds : List D} {bs : List Bool}, asBs ds = some bs → ds = bs.map D.bl
  | [], bs, h => by cases h; rfl
  | .bl b :: ds, bs, h => by
    have h : (asBs ds).map (b :: ·) = some bs := h
    cases e : asBs ds with
    | none => rw [e] at h; cases h
    | some cs => rw [e] at h; cases h; rw [asBs_ok e]; rfl
  | .non :: _, _, h => by cases h
  | .int _ :: _, _, h => by cases h
  | .str _ :: _, _, h => by cases h
  | .lst _ :: _, _, h => by cases h
  | .tup _ :: _, _, h => by cases h
  | .scr _ :: _, _, h => by cases h
/-- the data of a list or cell -/
def lstB : Vw → Option (List Bool)
  | .lst ds => asBs ds
  | _ => none
theorem lstB_ok {v : V} {vw : Vw} {bs : List Bool} (ok : VwOk kx.K R as H v vw) (e : lstB vw = some bs) : ∃ a, v = .ref a ∧ SqL kx.K H a (bs.map V.bl) := by
  cases vw <;> try cases e
  rename_i ws
  obtain ⟨a, vs, ev, q1, q2, q3⟩ := ok
  rw [asBs_ok e] at q2
  rw [q2.bools] at q1
  exact ⟨a, ev, SqL.of q1⟩
def allF (vw : Vw) : Option Res := (lstB vw).map fun bs => rd (.bl (bs.all id))
def anyF (vw : Vw) : Option Res := (lstB vw).map fun bs => rd (.bl (bs.any id))
theorem cr_allF (hK : kx.K = X.K) (hc : X.calm = true) : CallR X (.builtin "all") (L1R kx allF) := by
  intro pins s σ0 H xs us Q I r h
  obtain ⟨Fr, R, as, δ, C, σ', v, vw, rfl, S, ok, post⟩ := h
  unfold allF at post
  cases e : lstB vw with
  | none => rw [e] at post; exact post.elim
  | some bs =>
    rw [e] at post
    obtain ⟨a, rfl, q⟩ := lstB_ok ok e
    exact cr_all hc pins s σ0 H _ us Q I r ⟨a, bs, rfl, hK ▸ q, opt_ok S post (.bl _)⟩
theorem cr_anyF (hK : kx.K = X.K) (hc : X.calm = true) : CallR X (.builtin "any") (L1R kx anyF) := by
  intro pins s σ0 H xs us Q I r h
  obtain ⟨Fr, R, as, δ, C, σ', v, vw, rfl, S, ok, post⟩ := h
  unfold anyF at post
  cases e : lstB vw with
  | none => rw [e] at post; exact post.elim
  | some bs =>
    rw [e] at post
    obtain ⟨a, rfl, q⟩ := lstB_ok ok e
    exact cr_any hc pins s σ0 H _ us Q I r ⟨a, bs, rfl, hK ▸ q, opt_ok S post (.bl _)⟩
def listF : Vw → Option Res
  | .lst ds => some (.new (.lst ds))
  | .tup ds => some (.new (.lst ds))
  | .scr ns => some (.new (.lst (ns.map D.int)))
  | _ => none
theorem cr_listF (hK : kx.K = X.K) : CallR X (.type "list") (L1R kx listF) := by
  intro pins s σ0 H xs us Q I r h
  obtain ⟨Fr, R, as, δ, C, σ', v, vw, rfl, S, ok, post⟩ := h
  obtain ⟨K, XR, Wx⟩ := kx
  cases hK
  cases vw <;> try exact post.elim
  · obtain ⟨a, vs, ev, q1, q2, q3⟩ := ok; subst ev
    exact call_list_of pins s σ0 H _ us Q I r ⟨_, _, rfl, .inl (SqL.of q1), new_lst S post q2 q3⟩
  · obtain ⟨a, vs, ev, q1, q2, q3⟩ := ok; subst ev
    exact call_list_of pins s σ0 H _ us Q I r ⟨_, _, rfl, .inr q1, new_lst S post q2 q3.1⟩
  · obtain ⟨a, ev, q1, q2⟩ := ok; subst ev
    exact call_list_of pins s σ0 H _ us Q I r ⟨_, _, rfl, .inl q1, new_lst S post (rpInts _) (by rw [List.length_map]; exact q2)⟩
def tupF : Vw → Option Res
  | .lst ds => some (rd (.tup ds))
  | .tup ds => some (rd (.tup ds))
  | _ => none
theorem cr_tupF (hK : kx.K = X.K) : CallR X (.type "tuple") (L1R kx tupF) := by
  intro pins s σ0 H xs us Q I r h
  obtain ⟨Fr, R, as, δ, C, σ', v, vw, rfl, S, ok, post⟩ := h
  obtain ⟨K, XR, Wx⟩ := kx
  cases hK
  cases vw <;> try exact post.elim
  · rename_i ws
    obtain ⟨a, vs, ev, q1, q2, q3⟩ := ok; subst ev
    exact call_tuple_of pins s σ0 H _ us Q I r ⟨_, _, rfl, .inl ⟨SqL.of q1, new_tup S post q2 q3⟩⟩
  · obtain ⟨a, vs, ev, q1, q2, q3⟩ := ok; subst ev
    exact call_tuple_of pins s σ0 H _ us Q I r ⟨_, _, rfl, .inr ⟨q1, opt_ok S post (Rp.tup q3.2 q3.1 q2)⟩⟩

/-! ### isinstance -/
def tyN : Vw → String
  | .sc .non => "NoneType"
  | .sc (.bl _) => "bool"
  | .sc _ => "int"
  | .str _ => "str"
  | .lst _ => "list"
  | .scr _ => "list"
  | .tup _ => "tuple"
  | .dct _ => "dict"
def isT (t n : String) : Bool := t == n || (t == "bool" && n == "int")
theorem ty_of {v : V} {vw : Vw} (ok : VwOk kx.K R as H v vw) : TyX kx.K H v (.type (tyN vw)) := by
  cases vw with
  | sc x =>
    obtain ⟨p, s⟩ := ok
    cases p <;> first | exact .base .non | exact .base (.bl _) | exact .base (.int _) | exact s.elim
  | str x => obtain ⟨ev, _⟩ := ok; subst ev; exact .base (.str _)
  | lst ws => obtain ⟨a, vs, ev, q1, q2, q3⟩ := ok; subst ev; exact .base (.lst q1)
  | tup ds =>
    obtain ⟨a, vs, ev, q1, q2, q3⟩ := ok; subst ev
    rcases q1 with (q | ⟨o, q⟩) | ⟨o, its, n, h1, h2, _⟩
    · exact .base (.tup q)
    · exact .fTuple q
    · exact .kTuple h1 h2
  | scr ns =>
    obtain ⟨a, ev, q1, q2⟩ := ok; subst ev
    rcases q1 with (q | ⟨o, q⟩) | ⟨o, its, n, h1, h2, _⟩
    · exact .base (.lst q)
    · exact .base (.frz q)
    · exact .kList h1 h2
  | dct kvs => obtain ⟨a, vs, ev, q1, q2, q3⟩ := ok; subst ev; exact .base (.dK q1)
/-- the built-in classes that are asked for -/
def clsN (n : String) : Bool := n == "bool" || n == "int" || n == "str" || n == "list" || n == "tuple" || n == "dict"
def tysN : List String := ["NoneType", "bool", "int", "str", "list", "tuple", "dict"]
theorem tyN_mem : ∀ vw : Vw, tyN vw ∈ tysN
  | .sc .non => by decide
  | .sc (.bl _) => by show "bool" ∈ tysN; decide
  | .sc (.int _) => by show "int" ∈ tysN; decide
  | .sc (.str _) => by show "int" ∈ tysN; decide
  | .sc (.lst _) => by show "int" ∈ tysN; decide
  | .sc (.tup _) => by show "int" ∈ tysN; decide
  | .sc (.scr _) => by show "int" ∈ tysN; decide
  | .str _ => by show "str" ∈ tysN; decide
  | .lst _ => by show "list" ∈ tysN; decide
  | .scr _ => by show "list" ∈ tysN; decide
  | .tup _ => by show "tuple" ∈ tysN; decide
  | .dct _ => by show "dict" ∈ tysN; decide
theorem kit_all : (tysN.all fun t => ["bool", "int", "str", "list", "tuple", "dict"].all fun n => decide (kitB t n = some (isT t n))) = true := by decide +kernel
theorem kit_is {vw : Vw} {n : String} (h : clsN n = true) (K : PySem.W.Frag) : PySem.W.kitOne K (.type (tyN vw)) (.type n) = some (isT (tyN vw) n) := by
  refine kit_ty ?_
  have q := List.all_eq_true.mp kit_all _ (tyN_mem vw)
  have hm : n ∈ ["bool", "int", "str", "list", "tuple", "dict"] := by
    unfold clsN at h
    simp only [Bool.or_eq_true, beq_iff_eq] at h
    simp only [List.mem_cons, List.not_mem_nil, or_false]
    rcases h with ((((h | h) | h) | h) | h) | h <;> simp [h]
  exact of_decide_eq_true (List.all_eq_true.mp q _ hm)
theorem kitAny_is {vw : Vw} {K : PySem.W.Frag} : ∀ {ns : List String}, ns.all clsN = true → PySem.W.kitAny K (.type (tyN vw)) (ns.map Value.type) = some (ns.any fun n => isT (tyN vw) n)
  | [], _ => kitAny_nil
  | n :: ns, h => by
    rw [List.all_cons, Bool.and_eq_true] at h
    refine kitAny_cons (kit_is h.1 K) (fun hb => ?_) (fun hb => ?_)
    · rw [List.any_cons, hb, Bool.false_or]
      exact kitAny_is h.2
    · rw [List.any_cons, hb, Bool.true_or]
def fIsi (ns : List String) (fa : EF Res) : EF Res := bnd (bnd fa resF) fun w => bnd (fLook (.w w)) fun vw => ret (rd (.bl (ns.any fun n => isT (tyN vw) n)))
/-- a name that stands for a built-in class -/
structure TyNm (X : Cx) (e : Expr) (n : String) : Prop where
  pe : PE X e (tC (.ty n))
  ok : clsN n = true
  st : ∀ (e' : Expr) (es : List Expr), True
theorem de_isi {p : Pos} {n : String} {a c : Expr} {fa : EF Res} (hK : kx.K = X.K) (hg : Gl X "isinstance") (hm : X.mg "isinstance" = none) (hc : PE X c (tC (.ty n))) (hn : clsN n = true) (ha : DE X kx a fa)
    (he : starEach [a, c] X.env = (false, eval a X.env) :: starEach [c] X.env) (he2 : starEach [c] X.env = (false, eval c X.env) :: starEach [] X.env) (hpl : (backTo pos (starEach [c] X.env)).any (·.1) = false) :
    DE X kx (.Call (.Name "isinstance" p) [a, c] [] pos) (fIsi [n] fa) :=
  weakE (pe_callB call_isi hg hm (by decide +kernel) (pa_cons (df_of ha) (pa_cons hc pa_nil he2) he) (by decide) (by decide) he hpl) fun σ H Q ⟨Fr, R, as, δ, C, S, h⟩ =>
    lft_bnd S h fun R1 as1 C1 v w H1 g1 S1 pw h1 => by
      obtain ⟨vw, ok, h2⟩ := post_look S1.toStoreOk (PW'.res pw) h1
      refine ⟨v, .ty n, _, _, _, rfl, .ty n, hK ▸ ty_of ok, kit_is hn X.K, ret_d S1 h2 ?_⟩
      simp only [List.any_cons, List.any_nil, Bool.or_false]
      exact .bl _
theorem pa_tys : ∀ {cs : List Expr} {ns : List String}, Paired (fun c n => PE X c (tC (.ty n)) ∧ ∀ es, starEach (c :: es) X.env = (false, eval c X.env) :: starEach es X.env) cs ns → PA X cs (fun _ H Q => Q (ns.map V.ty) H)
  | _, _, .nil => pa_nil
  | _, _, .cons h r => weakA (pa_cons h.1 (pa_tys r) (h.2 _)) fun σ H Q q => q
theorem clsV_all : ∀ ns : List String, Paired ClsV (ns.map V.ty) (ns.map Value.type)
  | [] => .nil
  | n :: ns => .cons (.ty n) (clsV_all ns)
theorem de_isiT {p tpos : Pos} {k : Nat} {ns : List String} {a : Expr} {cs : List Expr} {fa : EF Res} (hK : kx.K = X.K) (hg : Gl X "isinstance") (hm : X.mg "isinstance" = none)
    (hc : Paired (fun c n => PE X c (tC (.ty n)) ∧ ∀ es, starEach (c :: es) X.env = (false, eval c X.env) :: starEach es X.env) cs ns) (hn : ns.all clsN = true) (hl : ns.length ≤ 100) (ha : DE X kx a fa)
    (he : starEach [a, .Tuple cs k tpos] X.env = (false, eval a X.env) :: starEach [.Tuple cs k tpos] X.env) (he2 : starEach [.Tuple cs k tpos] X.env = (false, eval (.Tuple cs k tpos) X.env) :: starEach [] X.env) (hpl : (backTo pos (starEach [.Tuple cs k tpos] X.env)).any (·.1) = false) :
    DE X kx (.Call (.Name "isinstance" p) [a, .Tuple cs k tpos] [] pos) (fIsi ns fa) :=
  weakE (pe_callB call_isiT hg hm (by decide +kernel) (pa_cons (df_of ha) (pa_cons (pe_tup (pa_tys hc)) pa_nil he2) he) (by decide) (by decide) he hpl) fun σ H Q ⟨Fr, R, as, δ, C, S, h⟩ =>
    lft_bnd S h fun R1 as1 C1 v w H1 g1 S1 pw h1 => by
      obtain ⟨vw, ok, h2⟩ := post_look S1.toStoreOk (PW'.res pw) h1
      refine ⟨by rw [List.length_map]; exact Nat.le_trans hl (by decide), fun q hq => ?_⟩
      have t := ty_of ok
      have t' : TyX X.K (upd H1 q (.tup (ns.map V.ty))) v (.type (tyN vw)) := by
        rw [hK] at t
        have ok' : VwOk kx.K R1 as1 (upd H1 q (.tup (ns.map V.ty))) v vw := by
          have s : Sub H1 (upd H1 q (.tup (ns.map V.ty))) := sub_upd hq
          cases vw with
          | sc x => exact ok
          | str x => exact ok
          | lst ws => obtain ⟨a, vs, ev, q1, q2, q3⟩ := ok; exact ⟨a, vs, ev, s _ _ q1, q2, q3⟩
          | tup ds => obtain ⟨a, vs, ev, q1, q2, q3⟩ := ok; exact ⟨a, vs, ev, s.sqT q1, q2, q3⟩
          | scr ns => obtain ⟨a, ev, q1, q2⟩ := ok; exact ⟨a, ev, s.sqL q1, q2⟩
          | dct kvs => obtain ⟨a, vs, ev, q1, q2, q3⟩ := ok; exact ⟨a, vs, ev, s _ _ q1, q2, q3⟩
        exact hK ▸ ty_of ok'
      exact ⟨v, q, _, _, _, _, rfl, upd_same, clsV_all ns, t', kitAny_is hn, ret_d (S1.more (sub_upd hq)) h2 (.bl _)⟩
end
end FL

/-! part FLh -/
set_option maxRecDepth 100000
set_option maxHeartbeats 4000007
/-! FL, part h: calls of defs, methods of cells, statements. -/
namespace FL
open L2 PyProof.Rows PySem.Spec PySem

/-! ### defs as functions on data -/
/-- a def: how many parameters; what it gives of its arguments and the cells -/
structure Fn where
  arity : Nat
  run : List W → Store → Option (Out Res)
def PostF (K : PySem.W.Frag) (XR : Hp → Hp → Value → Option Addr → Exn → Prop) (Fr R : Hp) (as : List Addr) (Q : VK) (E : XK) : Option (Out Res) → Prop
  | none => False
  | some (.exc e _ C') => ∀ R' as' H' cls dd, Grow R as R' as' → StoreOk K Fr R' as' C' H' → XR R' H' cls dd e → E cls dd H'
  | some (.ok r C') => ∀ R' as' v H', Grow R as R' as' → StoreOk K Fr R' as' C' H' → PRes K Fr R' as' H' v r → Q v H'
/-- its promise -/
def SpF (K : PySem.W.Frag) (XR : Hp → Hp → Value → Option Addr → Exn → Prop) (F : Fn) : Sp := fun vs H Q E => vs.length = F.arity ∧ ∃ Fr R as C ws, StoreOk K Fr R as C H ∧ RWs K R as vs ws ∧ PostF K XR Fr R as Q E (F.run ws C)
/-- the name x is a def that keeps the promise, there is room to call it -/
def Callable (X : Cx) (kx : KX) (x : Str) (F : Fn) : Prop :=
  ∃ (k : Nat) (f : Addr) (fd : FuncData) (ps : List Str), FnOk X.prog X.w X.K X.mg X.base (L2.CX X.prog X.w) k f fd ps (SpF kx.K kx.XR F) ∧ Room k X.A ∧ X.mg x = some (.ref f) ∧ PySem.W.keepIn X.K (.ref f) = true ∧ Binds X.K fd ps []
def fCall (F : Fn) (fs : EF (List W)) : EF Res := bnd fs fun ws δ C => if ws.length = F.arity then (match F.run ws C with
  | none => none
  | some (.exc e _ C') => some (.exc e δ C')
  | some (.ok r C') => some (.ok r C')) else none
section
variable {X : Cx} {kx : KX} {pos : Pos} {Fr R : Hp} {as : List Addr} {δ : Slots} {C : Store} {σ : L2.St} {H : Hp} {Q : V → Hp → Prop} {e : Expr} {es : List Expr}
theorem de_call {x : Str} {p : Pos} {F : Fn} {fs : EF (List W)} (c : Callable X kx x F) (tk : Takes X kx.W) (hg : Gl X x) (ha : DAw X kx (e :: es) fs) (hdb : (x == ("__debug__" : Str)) = false) (he : starEach (e :: es) X.env = (false, eval e X.env) :: starEach es X.env)
    (hpl : (backTo pos (starEach es X.env)).any (·.1) = false) : DE X kx (.Call (.Name x p) (e :: es) [] pos) (fCall F fs) := by
  obtain ⟨k, f, fd, ps, F1, hr, hm, hk, hb⟩ := c
  refine weakE (pe_callS F1 hr hg hm hk hb (fun σ => passAt tk σ) ha hdb he hpl) fun σ H Q ⟨Fr, R, as, δ, C, S, h⟩ => ?_
  refine lft_bnd S h fun R1 as1 C1 vs ws H1 g1 S1 pw h1 => ?_
  have pw : RWs kx.K R1 as1 vs ws := pw
  have h1 : Post kx (PRes kx.K) Fr R1 as1 δ σ Q (if ws.length = F.arity then (match F.run ws C1 with
    | none => none
    | some (.exc e _ C') => some (.exc e δ C')
    | some (.ok r C') => some (.ok r C')) else none) := h1
  by_cases hl : ws.length = F.arity
  · rw [if_pos hl] at h1
    refine ⟨by rw [pw.length]; exact hl, _, R1, as1, C1, ws, S1.toStoreOk, pw, ?_⟩
    cases q : F.run ws C1 with
    | none => rw [q] at h1; exact h1
    | some o =>
      rw [q] at h1
      cases o with
      | exc e δ' C' => exact fun R' as' H' cls dd g S' x => h1 R' as' σ H' cls dd g (S1.grow g S') x
      | ok r C' => exact fun R' as' v H' g S' p => h1 R' as' v H' g (S1.grow g S') p
  · rw [if_neg hl] at h1; exact h1.elim

/-! ### methods of a live list -/
def cellL (w : W) : EF (List D) := fun _ C => match w with
  | .c i => (match C[i]? with
    | some (.lst ws) => some (.ok ws C)
    | _ => none)
  | _ => none
def putL (w : W) (c : Cell) (r : Res) : EF Res := fun _ C => match w with
  | .c i => some (.ok r (C.set i c))
  | _ => none
theorem post_cell {α β : Type} {P : Hp → Hp → List Addr → Hp → β → α → Prop} {Qb : β → Hp → Prop} {w : W} {v : V} {g : List D → EF α} (S : StoreOk kx.K Fr R as C H) (p : RW kx.K R as v w) (h : Post kx P Fr R as δ σ Qb (bnd (cellL w) g δ C)) :
    ∃ i a vs ws, w = .c i ∧ v = .ref a ∧ as[i]? = some a ∧ C[i]? = some (.lst ws) ∧ R a = none ∧ H a = some (.lst vs) ∧ RpL kx.K R vs ws ∧ vs.length ≤ sizeLine ∧ Post kx P Fr R as δ σ Qb (g ws δ C) := by
  cases w with
  | d x => exact h.elim
  | c i =>
    obtain ⟨a, ha, ev⟩ := p
    unfold bnd cellL at h
    cases q : C[i]? with
    | none => simp only [q] at h; exact h.elim
    | some c =>
      cases c with
      | lst ws =>
        simp only [q] at h
        obtain ⟨hn, o, ho, hc⟩ := S.cell i a _ ha q
        cases o with
        | lst vs => exact ⟨i, a, vs, ws, rfl, ev, ha, q, hn, ho, hc.1, hc.2, h⟩
        | _ => exact hc.elim
      | _ => simp only [q] at h; exact h.elim
def fAppend (fo : EF Res) (fe : EF D) : EF Res := bnd (bnd fo resF) fun w => bnd (cellL w) fun _ => bnd fe fun d => bnd (cellL w) fun ws => if ws.length < sizeLine then putL w (.lst (ws ++ [d])) (rd .non) else stuck
def fPopAt (fo : EF Res) (fe : EF D) : EF Res := bnd (bnd fo resF) fun w => bnd (cellL w) fun _ => bnd fe fun d => bnd (cellL w) fun ws => bnd (opt (asI d)) fun i => bnd (opt (ixN ws.length i)) fun k => bnd (opt ws[k]?) fun y => putL w (.lst (ws.eraseIdx k)) (rd y)
theorem side_few {es : List Expr} {l : List (Bool × Sem Value)} : True := trivial
theorem de_append {o : Expr} {apos cpos : Pos} {fo : EF Res} {fe : EF D} (hK : kx.K = X.K) (ho : DE X kx o fo) (he : DD X kx e fe) (hbase : attributeBase o "append" X.env (eval o X.env) = eval o X.env) (hline : (apos.endLine == cpos.line) = true)
    (hs : starEach [e] X.env = (false, eval e X.env) :: starEach [] X.env) : DE X kx (.Call (.Attribute o "append" apos) [e] [] cpos) (fAppend fo fe) :=
  weakE (pe_bm PySem.F.plainAttrs_list PySem.F.slot_list_append PySem.F.type_list_append mt_append (df_of ho) (pa_cons he pa_nil hs) hbase (by rw [hs]; rfl) hline hs rfl) fun σ H Q ⟨Fr, R, as, δ, C, S, h⟩ =>
    lft_bnd S h fun R1 as1 C1 v w H1 g1 S1 pw h1 => by
      obtain ⟨i, a, vs, ws, rfl, rfl, ha, hC, hn, hH, rw', hl, h2⟩ := post_cell S1.toStoreOk pw h1
      refine ⟨.inl ⟨rfl, vs, hK ▸ SqL.of hH⟩, ?_⟩
      obtain ⟨Fr, R0, as0, δ0, C0, S0, q0⟩ : Lft kx (PD kx.K) fe σ H1 fun u H2 => rAppend (.ref a) [u] H2 Q := lft_bnd S1 h2 fun R2 as2 C2 u d H2 g2 S2 pd h3 => by
        obtain ⟨j, b, vs2, ws2, e1, e2, hb, hC2, hn2, hH2, rw2, hl2, h4⟩ := post_cell (v := .ref a) S2.toStoreOk (RW.mono g2 pw) h3
        cases e1
        cases e2
        have el := rw2.length
        by_cases hz : ws2.length < sizeLine
        · rw [if_pos hz] at h4
          refine ⟨a, vs2, u, rfl, rfl, hH2, by omega, ?_⟩
          have S3 := S2.toStoreOk.write (c := .lst (ws2 ++ [d])) (o := .lst (vs2 ++ [u])) hb hC2 hn2 ⟨rw2.append (.cons pd .nil), by rw [List.length_append]; show vs2.length + 1 ≤ sizeLine; omega⟩
          exact h4 R2 as2 _ _ (Grow.refl _ _) (S2.grow (Grow.refl _ _) S3) Rp.non
        · rw [if_neg hz] at h4; exact h4.elim
      refine ⟨Fr, R0, as0, δ0, C0, S0, ?_⟩
      cases qe : fe δ0 C0 with
      | none => rw [qe] at q0; exact q0
      | some oo =>
        rw [qe] at q0
        cases oo with
        | exc _ _ _ => exact q0
        | ok d C3 => exact q0
theorem de_popAt {o : Expr} {apos cpos : Pos} {fo : EF Res} {fe : EF D} (hK : kx.K = X.K) (ho : DE X kx o fo) (he : DD X kx e fe) (hbase : attributeBase o "pop" X.env (eval o X.env) = eval o X.env) (hline : (apos.endLine == cpos.line) = true)
    (hs : starEach [e] X.env = (false, eval e X.env) :: starEach [] X.env) : DE X kx (.Call (.Attribute o "pop" apos) [e] [] cpos) (fPopAt fo fe) :=
  weakE (pe_bm PySem.F.plainAttrs_list PySem.F.slot_list_pop PySem.F.type_list_pop mt_popAt (df_of ho) (pa_cons he pa_nil hs) hbase (by rw [hs]; rfl) hline hs rfl) fun σ H Q ⟨Fr, R, as, δ, C, S, h⟩ =>
    lft_bnd S h fun R1 as1 C1 v w H1 g1 S1 pw h1 => by
      obtain ⟨i, a, vs, ws, rfl, rfl, ha, hC, hn, hH, rw', hl, h2⟩ := post_cell S1.toStoreOk pw h1
      refine ⟨.inl ⟨rfl, vs, hK ▸ SqL.of hH⟩, ?_⟩
      refine lft_bnd S1 h2 fun R2 as2 C2 u d H2 g2 S2 pd h3 => ?_
      obtain ⟨j, b, vs2, ws2, e1, e2, hb, hC2, hn2, hH2, rw2, hl2, h4⟩ := post_cell (v := .ref a) S2.toStoreOk (RW.mono g2 pw) h3
      cases e1
      cases e2
      obtain ⟨n, en, h5⟩ := post_bopt h4
      obtain ⟨k, ek, h6⟩ := post_bopt h5
      obtain ⟨y, ey, h7⟩ := post_bopt h6
      cases pd <;> try cases en
      have el := rw2.length
      obtain ⟨q1, q2, q3, q4⟩ := ixN_seq ek
      obtain ⟨z, ez, rz⟩ := rw2.get ey
      have hs : sizeLine = 16777216 := rfl
      refine ⟨a, vs2, _, k, z, rfl, rfl, hH2, by omega, by omega, by rw [el]; exact q1, ez, ?_⟩
      have S3 := S2.toStoreOk.write (c := .lst (ws2.eraseIdx k)) (o := .lst (vs2.eraseIdx k)) hb hC2 hn2 ⟨rw2.eraseIdx k, Nat.le_trans (List.length_eraseIdx_le ..) hl2⟩
      exact h7 R2 as2 _ _ (Grow.refl _ _) (S2.grow (Grow.refl _ _) S3) rz
end
end FL

/-! part FLi -/
set_option maxRecDepth 100000
set_option maxHeartbeats 4000007
/-! FL, part i: statements, loops. -/
namespace FL
open L2 PyProof.Rows PySem.Spec PySem

inductive Fl where
  | nx (δ : Slots) | rt (r : Res) | bk (δ : Slots) | ct (δ : Slots)
abbrev SF := EF Fl
def PostS (X : KX) (Fr R : Hp) (as : List Addr) (Dn : Ends) : Option (Out Fl) → Prop
  | none => False
  | some (.exc e δ' C') => PostX X Fr R as e δ' C'
  | some (.ok (.nx δ') C') => ∀ R' as' σ' H', Grow R as R' as' → StOk X.K Fr R' as' δ' C' σ' H' → Dn.nx σ' H'
  | some (.ok (.bk δ') C') => ∀ R' as' σ' H', Grow R as R' as' → StOk X.K Fr R' as' δ' C' σ' H' → Dn.bk σ' H'
  | some (.ok (.ct δ') C') => ∀ R' as' σ' H', Grow R as R' as' → StOk X.K Fr R' as' δ' C' σ' H' → Dn.ct σ' H'
  | some (.ok (.rt r) C') => ∀ R' as' v H', Grow R as R' as' → StoreOk X.K Fr R' as' C' H' → PRes X.K Fr R' as' H' v r → Dn.rt v H'
def LS (X : KX) (f : SF) (Dn : Ends) (σ : L2.St) (H : Hp) : Prop := ∃ Fr R as δ C, StOk X.K Fr R as δ C σ H ∧ PostS X Fr R as Dn (f δ C)
abbrev DS (X : Cx) (kx : KX) (st : Stmt) (f : SF) : Prop := PS X st (LS kx f)
abbrev DSs (X : Cx) (kx : KX) (sts : List Stmt) (f : SF) : Prop := PSs X sts (LS kx f)
section
variable {X : Cx} {kx : KX} {pos : Pos} {Fr R R1 : Hp} {as as1 : List Addr} {δ : Slots} {C : Store} {σ : L2.St} {H : Hp} {Dn : Ends} {e : Expr} {es : List Expr} {st : Stmt} {sts : List Stmt}
theorem PostS.grow (g : Grow R as R1 as1) {o : Option (Out Fl)} (h : PostS kx Fr R as Dn o) : PostS kx Fr R1 as1 Dn o := by
  match o, h with
  | some (.exc e δ' C'), h => exact PostX.grow g h
  | some (.ok (.nx _) _), h => exact fun R' as' σ' H' g' => h R' as' σ' H' (g.trans g')
  | some (.ok (.bk _) _), h => exact fun R' as' σ' H' g' => h R' as' σ' H' (g.trans g')
  | some (.ok (.ct _) _), h => exact fun R' as' σ' H' g' => h R' as' σ' H' (g.trans g')
  | some (.ok (.rt _) _), h => exact fun R' as' v H' g' => h R' as' v H' (g.trans g')
theorem PostS.nx (S : StOk kx.K Fr R as δ C σ H) (h : PostS kx Fr R as Dn (some (.ok (.nx δ) C))) : Dn.nx σ H := h R as σ H (Grow.refl _ _) S
/-- an expression ahead -/
theorem lfs_bnd {β1 α1 : Type} {P1 : Hp → Hp → List Addr → Hp → β1 → α1 → Prop} {Q1 : β1 → Hp → Prop} {f : EF α1} {g : α1 → SF} (S : StOk kx.K Fr R as δ C σ H) (h : PostS kx Fr R as Dn (bnd f g δ C))
    (k : ∀ R1 as1 C1 b x H1, Grow R as R1 as1 → StOk kx.K Fr R1 as1 δ C1 σ H1 → P1 Fr R1 as1 H1 b x → PostS kx Fr R1 as1 Dn (g x δ C1) → Q1 b H1) : Lft kx P1 f σ H Q1 := by
  refine ⟨Fr, R, as, δ, C, S, ?_⟩
  unfold bnd at h
  cases e : f δ C with
  | none => rw [e] at h; exact h
  | some o =>
    rw [e] at h
    cases o with
    | exc e δ' C' => exact h
    | ok x C' => exact fun R' as' b H' gr S' p => k R' as' C' b x H' gr S' p (PostS.grow gr h)
/-! ### rows -/
def fNext : SF := fun δ C => some (.ok (.nx δ) C)
def fSeq (s t : SF) : SF := fun δ C => match s δ C with
  | none => none
  | some (.exc e δ' C') => some (.exc e δ' C')
  | some (.ok (.nx δ') C') => t δ' C'
  | some (.ok x C') => some (.ok x C')
theorem dss_nil : DSs X kx [] fNext := weakSs pss_nil fun D σ H ⟨Fr, R, as, δ, C, S, h⟩ => h.nx S
theorem seq_of {s t : SF} (h : LS kx (fSeq s t) Dn σ H) : tSeq (LS kx s) (LS kx t) Dn σ H := by
  obtain ⟨Fr, R, as, δ, C, S, h⟩ := h
  refine ⟨Fr, R, as, δ, C, S, ?_⟩
  unfold fSeq at h
  cases q : s δ C with
  | none => rw [q] at h; exact h
  | some o =>
    rw [q] at h
    cases o with
    | exc e δ' C' => exact h
    | ok x C' =>
      cases x with
      | nx δ' => exact fun R' as' σ' H' g S' => ⟨_, R', as', δ', C', S', PostS.grow g h⟩
      | _ => exact h
theorem dss_cons {s t : SF} (h1 : DS X kx st s) (h2 : DSs X kx sts t) : DSs X kx (st :: sts) (fSeq s t) := weakSs (pss_cons h1 h2) fun D σ H h => seq_of h
/-! ### simple statements -/
def fPass : SF := fNext
def fBreak : SF := fun δ C => some (.ok (.bk δ) C)
def fCont : SF := fun δ C => some (.ok (.ct δ) C)
theorem ds_pass : DS X kx (.Pass pos) fNext := weakS ps_pass fun D σ H ⟨Fr, R, as, δ, C, S, h⟩ => h.nx S
theorem ds_break : DS X kx (.Break pos) fBreak := weakS ps_break fun D σ H ⟨Fr, R, as, δ, C, S, h⟩ => h R as σ H (Grow.refl _ _) S
theorem ds_continue : DS X kx (.Continue pos) fCont := weakS ps_continue fun D σ H ⟨Fr, R, as, δ, C, S, h⟩ => h R as σ H (Grow.refl _ _) S
theorem ds_never : DS X kx st (fun _ _ => none) := ⟨fun pins s σ H D I ⟨Fr, R, as, δ, C, S, h⟩ => h.elim⟩
def fExpr (f : EF Res) : SF := bnd f fun _ δ C => some (.ok (.nx δ) C)
theorem ds_expr {f : EF Res} (h : DE X kx e f) (hs : swapsWith e none pos.line X.env = pure false) : DS X kx (.Expr e pos) (fExpr f) :=
  weakS (ps_expr h hs) fun D σ H ⟨Fr, R, as, δ, C, S, q⟩ => lfs_bnd S q fun R1 as1 C1 v r H1 g1 S1 p1 h1 => h1.nx S1
def fRet (f : EF Res) : SF := bnd f fun r => ret (.rt r)
theorem ds_ret {f : EF Res} (h : DE X kx e f) : DS X kx (.Return (some e) pos) (fRet f) :=
  weakS (ps_ret h) fun D σ H ⟨Fr, R, as, δ, C, S, q⟩ => lfs_bnd S q fun R1 as1 C1 v r H1 g1 S1 p1 h1 => h1 R1 as1 v H1 (Grow.refl _ _) S1.toStoreOk p1
def fRetD (f : EF D) : SF := bnd f fun d => ret (.rt (rd d))
theorem ds_retD {f : EF D} (h : DD X kx e f) : DS X kx (.Return (some e) pos) (fRetD f) :=
  weakS (ps_ret h) fun D σ H ⟨Fr, R, as, δ, C, S, q⟩ => lfs_bnd S q fun R1 as1 C1 v r H1 g1 S1 p1 h1 => h1 R1 as1 v H1 (Grow.refl _ _) S1.toStoreOk p1
def fRetN : SF := ret (.rt (rd .non))
theorem ds_retN : DS X kx (.Return none pos) fRetN := weakS ps_retN fun D σ H ⟨Fr, R, as, δ, C, S, q⟩ => q R as _ H (Grow.refl _ _) S.toStoreOk Rp.non
def fIf (fc : EF Bool) (s t : SF) : SF := bnd fc fun c => match c with
  | true => s
  | false => t
theorem ds_if {c : Expr} {a b : List Stmt} {fc : EF Bool} {s t : SF} (hc : DT X kx c fc) (ha : DSs X kx a s) (hb : DSs X kx b t) : DS X kx (.If c a b pos) (fIf fc s t) :=
  weakS (ps_if hc ha hb) fun D σ H ⟨Fr, R, as, δ, C, S, q⟩ => lfs_bnd S q fun R1 as1 C1 b b' H1 g1 S1 p1 h1 => by
    cases p1
    cases b with
    | true => rw [if_pos rfl]; exact ⟨Fr, R1, as1, δ, C1, S1, h1⟩
    | false => rw [if_neg Bool.false_ne_true]; exact ⟨Fr, R1, as1, δ, C1, S1, h1⟩
/-! ### names stored -/
theorem StOk.set {K : PySem.W.Frag} (S : StOk K Fr R as δ C σ H) (i : Nat) {v : V} {w : W} (p : RW K R as v w) : StOk K Fr R as (δ.set i (some w)) C (σ.set i (some v)) H :=
  ⟨S.toStoreOk, by rw [List.length_set, List.length_set]; exact S.slen, fun j w' h => by
    by_cases hj : j = i
    · subst hj
      by_cases hl : j < δ.length
      · rw [List.getElem?_set_self hl] at h
        cases h
        exact ⟨v, by rw [List.getElem?_set_self (by rw [← S.slen]; exact hl)], p⟩
      · rw [List.getElem?_eq_none (by simpa using hl)] at h; cases h
    · rw [List.getElem?_set_ne (Ne.symm hj)] at h
      obtain ⟨u, h1, h2⟩ := S.slot j w' h
      exact ⟨u, by rw [List.getElem?_set_ne (Ne.symm hj)]; exact h1, h2⟩⟩
def fSet (f : EF W) (i : Nat) : SF := bnd f fun w δ C => some (.ok (.nx (δ.set i (some w))) C)
theorem ds_set {f : EF W} {i : Nat} {x : Str} {p : Pos} (hN : X.N.Nodup) (hi : X.N[i]? = some x) (hx : Loc X.env.scope x) (h : DW X kx e f) (hs : swapsWith e (some (.Name x p)) pos.line X.env = pure false) (hf : X.fn x = true ∨ X.env.scope.names.lookup x = some .local) :
    DS X kx (.Assign [.Name x p] e pos) (fSet f i) :=
  weakS (ps_set hN hi hx h hs hf) fun D σ H ⟨Fr, R, as, δ, C, S, q⟩ => lfs_bnd S q fun R1 as1 C1 v w H1 g1 S1 p1 h1 => h1 R1 as1 _ H1 (Grow.refl _ _) (S1.set i p1)
/-- a, b = e1, e2 -/
def fPar (fs : EF (List W)) (i j : Nat) : SF := bnd fs fun ws δ C => match ws with
  | [a, b] => some (.ok (.nx ((δ.set i (some a)).set j (some b))) C)
  | _ => none
theorem ds_par {i j : Nat} {x y : Str} {a b : Expr} {fs : EF (List W)} {px py pt : Pos} {kt k2 pt2} (hc : X.calm = true) (hN : X.N.Nodup) (hi : X.N[i]? = some x) (hj : X.N[j]? = some y) (hij : i ≠ j)
    (hx : X.env.scope.names.lookup x = some .local) (hy : X.env.scope.names.lookup y = some .local) (ha : DAw X kx [a, b] fs)
    (hw : swappedStores [.Tuple [.Name x px, .Name y py] kt pt] (.Tuple [a, b] k2 pt2) X.env = pure (some [x, y])) :
    DS X kx (.Assign [.Tuple [.Name x px, .Name y py] kt pt] (.Tuple [a, b] k2 pt2) pos) (fPar fs i j) :=
  weakS (ps_par hc hN hi hj hij hx hy ha hw) fun D σ H ⟨Fr, R, as, δ, C, S, q⟩ => lfs_bnd S q fun R1 as1 C1 vs ws H1 g1 S1 p1 h1 => by
    have p1 : RWs kx.K R1 as1 vs ws := p1
    match ws, p1, h1 with
    | [a, b], .cons q1 (.cons q2 .nil), h1 => exact ⟨_, _, rfl, h1 R1 as1 _ H1 (Grow.refl _ _) ((S1.set i q1).set j q2)⟩
/-! ### targets -/
abbrev TF := D → Slots → Option Slots
abbrev TFs := List D → Slots → Option Slots
/-- the slots outside ix stay -/
def Wp (ix : List Nat) (σ σ' : L2.St) : Prop := ∀ vs, (∀ i ∈ ix, i ∈ vs) → wipe σ' vs = wipe σ vs
def LG (kx : KX) (ix : List Nat) (t : TF) : TG := fun v σ H Q => ∃ Fr R as δ C x δ', StOk kx.K Fr R as δ C σ H ∧ Rp kx.K R v x ∧ t x δ = some δ' ∧ ∀ σ', StOk kx.K Fr R as δ' C σ' H → Wp ix σ σ' → Q σ' H
def LGs (kx : KX) (ix : List Nat) (t : TFs) : TGs := fun vs σ H Q => ∃ Fr R as δ C xs δ', StOk kx.K Fr R as δ C σ H ∧ RpL kx.K R vs xs ∧ t xs δ = some δ' ∧ ∀ σ', StOk kx.K Fr R as δ' C σ' H → Wp ix σ σ' → Q σ' H
abbrev DG (X : Cx) (kx : KX) (e : Expr) (ix : List Nat) (t : TF) : Prop := PG X e (LG kx ix t)
abbrev DGs (X : Cx) (kx : KX) (es : List Expr) (ix : List Nat) (t : TFs) : Prop := PGs X es (LGs kx ix t)
theorem weakG {t t' : TG} (h : PG X e t) (w : ∀ v σ H Q, t' v σ H Q → t v σ H Q) : PG X e t' := ⟨fun pins s σ H v u Q I r q => h.run pins s σ H v u Q I r (w v σ H Q q)⟩
theorem weakGs {t t' : TGs} (h : PGs X es t) (w : ∀ v σ H Q, t' v σ H Q → t v σ H Q) : PGs X es t' := ⟨fun pins s σ H vs us Q I r q => h.run pins s σ H vs us Q I r (w vs σ H Q q)⟩
theorem wipe_get {σ : L2.St} : ∀ {vs : List Nat} {j : Nat}, (wipe σ vs)[j]? = if j ∈ vs then (if j < σ.length then some none else none) else σ[j]?
  | [], j => by simp [wipe]
  | v :: vs, j => by
    show ((wipe σ vs).set v none)[j]? = _
    by_cases hj : j = v
    · subst hj
      by_cases hl : j < σ.length
      · rw [List.getElem?_set_self (by rw [wipe_length]; exact hl), if_pos (by simp), if_pos hl]
      · rw [List.getElem?_eq_none (by rw [List.length_set, wipe_length]; omega), if_pos (by simp), if_neg hl]
    · rw [List.getElem?_set_ne (Ne.symm hj), wipe_get]
      by_cases hm : j ∈ vs
      · rw [if_pos hm, if_pos (List.mem_cons_of_mem _ hm)]
      · rw [if_neg hm, if_neg (by simp [hj, hm])]
theorem wp_set (i : Nat) (x : Option V) (σ : L2.St) : Wp [i] σ (σ.set i x) := fun vs h => by
  have hi : i ∈ vs := h i (by simp)
  refine List.ext_getElem? fun j => ?_
  rw [wipe_get, wipe_get, List.length_set]
  by_cases hm : j ∈ vs
  · rw [if_pos hm, if_pos hm]
  · rw [if_neg hm, if_neg hm, List.getElem?_set_ne (show i ≠ j from fun z => hm (by rw [← z]; exact hi))]
theorem Wp.trans {i1 i2 : List Nat} {σ σ1 σ2 : L2.St} (a : Wp i1 σ σ1) (b : Wp i2 σ1 σ2) : Wp (i1 ++ i2) σ σ2 := fun vs h =>
  (b vs fun i hi => h i (List.mem_append_right _ hi)).trans (a vs fun i hi => h i (List.mem_append_left _ hi))
def tName (i : Nat) : TF := fun x δ => some (δ.set i (some (.d x)))
def tNilF : TFs := fun xs δ => match xs with
  | [] => some δ
  | _ => none
def tConsF (t : TF) (u : TFs) : TFs := fun xs δ => match xs with
  | x :: r => (t x δ).bind (u r)
  | [] => none
def tTupF (n : Nat) (u : TFs) : TF := fun x δ => match x with
  | .tup xs => if xs.length = n then u xs δ else none
  | _ => none
theorem dg_name {i : Nat} {x : Str} (hN : X.N.Nodup) (hi : X.N[i]? = some x) (hx : Loc X.env.scope x) (hf : X.fn x = true ∨ X.env.scope.names.lookup x = some .local) : DG X kx (.Name x pos) [i] (tName i) :=
  weakG (pg_name hN hi hx hf) fun v σ H Q ⟨Fr, R, as, δ, C, x, δ', S, p, e, q⟩ => by
    cases e
    exact q _ (S.set i (w := .d x) p) (wp_set _ _ _)
theorem dgs_nil : DGs X kx [] [] tNilF := weakGs pgs_nil fun v σ H Q ⟨Fr, R, as, δ, C, x, δ', S, p, e, q⟩ => by
  cases p with
  | nil => cases e; exact ⟨rfl, q _ S fun vs _ => rfl⟩
  | cons _ _ => cases e
theorem dgs_cons {t : TF} {u : TFs} {i1 i2 : List Nat} (h1 : DG X kx e i1 t) (h2 : DGs X kx es i2 u) (hs : (assignEach (e :: es) X.env).map (·.2) = assign e X.env :: (assignEach es X.env).map (·.2)) : DGs X kx (e :: es) (i1 ++ i2) (tConsF t u) :=
  weakGs (pgs_cons h1 h2 hs) fun v σ H Q ⟨Fr, R, as, δ, C, x, δ', S, p, e, q⟩ => by
    cases p with
    | nil => cases e
    | @cons v vs d ds p r =>
      have e : (t d δ).bind (u ds) = some δ' := e
      cases e1 : t d δ with
      | none => rw [e1] at e; cases e
      | some δ1 =>
        rw [e1] at e
        exact ⟨v, vs, rfl, Fr, R, as, δ, C, d, δ1, S, p, e1, fun σ1 S1 w1 => ⟨Fr, R, as, δ1, C, ds, δ', S1, r, e, fun σ2 S2 w2 => q σ2 S2 (w1.trans w2)⟩⟩
theorem dg_tup {k n : Nat} {u : TFs} {ix : List Nat} (hK : kx.K = X.K) (hc : X.calm = true) (h : DGs X kx es ix u) (hn : (assignEach es X.env).length = n) (hst : (assignEach es X.env).findIdx? (·.1) = none) : DG X kx (.Tuple es k pos) ix (tTupF n u) :=
  weakG (pg_tup hc h hn hst) fun v σ H Q ⟨Fr, R, as, δ, C, x, δ', S, p, e, q⟩ => by
    cases p with
    | @tup a vs ds ha hl r =>
      have e : (if ds.length = n then u ds δ else none) = some δ' := e
      by_cases hz : ds.length = n
      · rw [if_pos hz] at e
        exact ⟨a, vs, rfl, hK ▸ S.sub.sqT ha, by rw [r.length]; exact hz, Fr, R, as, δ, C, ds, δ', S, r, e, q⟩
      · rw [if_neg hz] at e; cases e
    | _ => cases e

/-! ### what a for walks -/
/-- a walk that gives these data -/
def WalkD (K : PySem.W.Frag) (J : It) (R1 : Hp) (ds : List D) : Prop := ∃ (G : Hp → Prop) (Y : Nat → Hp → V → Hp → Prop), Walk J ds.length G Y ∧ (∀ H, Sub R1 H → G H) ∧
  ∀ i H x H' R d, Sub R1 R → Sub R H → Y i H x H' → ds[i]? = some d → ∃ R', Sub R R' ∧ Sub R' H' ∧ Sub H H' ∧ (∀ a o, H a = some o → R' a = R a) ∧ Rp K R' x d
theorem StOk.yield {K : PySem.W.Frag} {R' H' : Hp} (S : StOk K Fr R as δ C σ H) (h1 : Sub R R') (h2 : Sub R' H') (h3 : Sub H H') (h4 : ∀ a o, H a = some o → R' a = R a) : StOk K Fr R' as δ C σ H' :=
  S.grow ⟨h1, [], by simp⟩ ⟨h2, S.len, S.nd, fun i a c ha hc => by
    have q := S.cell i a c ha hc
    have g : Grow R as R' as := ⟨h1, [], by simp⟩
    cases c with
    | fro x => exact Rp.mono h1 q
    | lst ws => obtain ⟨q1, u, q2, q3⟩ := q; exact ⟨by rw [h4 _ _ q2]; exact q1, u, h3 _ _ q2, q3.mono g.1⟩
    | dct ws => obtain ⟨q1, u, q2, q3⟩ := q; exact ⟨by rw [h4 _ _ q2]; exact q1, u, h3 _ _ q2, q3.mono g.1⟩, fun a h => let ⟨o, q⟩ := S.there a h; ⟨o, h3 _ _ q⟩,
    fun a o e => let ⟨q1, q2, q3⟩ := S.fr a o e; ⟨h3 _ _ q1, by rw [h4 _ _ q1]; exact q2, q3⟩⟩
def PIt (K : PySem.W.Frag) (_ R : Hp) (_ : List Addr) (_ : Hp) (J : It) (ds : List D) : Prop := WalkD K J R ds ∧ ds.length ≤ sizeLine
abbrev DI (X : Cx) (kx : KX) (tg e : Expr) (f : EF (List D)) : Prop := PI X tg e (Lft kx (PIt kx.K) f)
theorem weakI {tg : Expr} {t t' : TI} (h : PI X tg e t) (w : ∀ σ H Q, t' σ H Q → t σ H Q) : PI X tg e t' := ⟨fun pins s σ H R I q => h.run pins s σ H R I (w σ H R q)⟩
theorem PI.or {tg : Expr} {t t' : TI} (h : PI X tg e t) (h' : PI X tg e t') : PI X tg e (fun σ H Q => t σ H Q ∨ t' σ H Q) := ⟨fun pins s σ H R I q => q.elim (h.run pins s σ H R I) (h'.run pins s σ H R I)⟩
theorem walkD_list {K : PySem.W.Frag} {R : Hp} {a : Addr} {vs : List V} {ds : List D} (h : R a = some (.lst vs)) (r : RpL K R vs ds) : WalkD K (Itl K a) R ds := by
  refine ⟨fun H => SqL K H a vs, YAt vs, by rw [← r.length]; exact walk_list, fun H s => SqL.of (s _ _ h), fun i H x H' R2 d s1 s2 y e => ?_⟩
  obtain ⟨rfl, ex⟩ := y
  obtain ⟨v, ev, p⟩ := r.get e
  rw [ex] at ev
  cases ev
  exact ⟨R2, Sub.refl _, s2, Sub.refl _, fun _ _ _ => rfl, Rp.mono s1 p⟩
theorem walkD_tup {K : PySem.W.Frag} {R : Hp} {a : Addr} {vs : List V} {ds : List D} (h : SqT K R a vs) (r : RpL K R vs ds) : WalkD K (Itt K a) R ds := by
  refine ⟨fun H => SqT K H a vs, YAt vs, by rw [← r.length]; exact walk_tup, fun H s => s.sqT h, fun i H x H' R2 d s1 s2 y e => ?_⟩
  obtain ⟨rfl, ex⟩ := y
  obtain ⟨v, ev, p⟩ := r.get e
  rw [ex] at ev
  cases ev
  exact ⟨R2, Sub.refl _, s2, Sub.refl _, fun _ _ _ => rfl, Rp.mono s1 p⟩
theorem walkD_scr {K : PySem.W.Frag} {R : Hp} {a : Addr} {ns : List Int} (h : SqL K R a (ns.map V.int)) : WalkD K (Itl K a) R (ns.map D.int) := by
  refine ⟨fun H => SqL K H a (ns.map V.int), YAt (ns.map V.int), by rw [List.length_map, ← List.length_map (f := V.int)]; exact walk_list, fun H s => s.sqL h, fun i H x H' R2 d s1 s2 y e => ?_⟩
  obtain ⟨rfl, ex⟩ := y
  rw [List.getElem?_map] at e ex
  cases q : ns[i]? with
  | none => rw [q] at e; cases e
  | some n =>
    rw [q] at e ex
    cases e
    cases ex
    exact ⟨R2, Sub.refl _, s2, Sub.refl _, fun _ _ _ => rfl, .int _⟩
def signs (z : Str) : List D := z.cps.toList.map fun c => .str ⟨#[c]⟩
theorem walkD_str {K : PySem.W.Frag} {R : Hp} {z : Str} : WalkD K (Its z) R (signs z) := by
  refine ⟨fun _ => True, _, by unfold signs; rw [List.length_map, Array.length_toList]; exact walk_str, fun _ _ => trivial, fun i H x H' R2 d s1 s2 y e => ?_⟩
  obtain ⟨rfl, c, ex, rfl⟩ := y
  unfold signs at e
  rw [List.getElem?_map] at e
  have ex : z.cps.toList[i]? = some c := by rw [Array.getElem?_toList]; exact ex
  rw [ex] at e
  cases e
  exact ⟨R2, Sub.refl _, s2, Sub.refl _, fun _ _ _ => rfl, .str _ (by show 1 ≤ sizeLine; decide)⟩
def itD : D → Option (List D)
  | .lst ds => some ds
  | .tup ds => some ds
  | .scr ns => some (ns.map D.int)
  | .str z => some (signs z)
  | _ => none
def fIt (f : EF D) : EF (List D) := bnd f fun x => opt (itD x)
theorem di_data {tg : Expr} {f : EF D} (hK : kx.K = X.K) (h : DD X kx e f) : DI X kx tg e (fIt f) := by
  refine weakI (PI.or (pi_list h) (PI.or (pi_tup h) (pi_str h))) fun σ H Rk ⟨Fr, R, as, δ, C, S, q⟩ => ?_
  obtain ⟨K, XR, Wx⟩ := kx
  cases hK
  unfold fIt bnd at q
  cases ef : f δ C with
  | none => rw [ef] at q; exact q.elim
  | some o =>
    cases o with
    | exc e2 δ' C' => rw [ef] at q; exact .inl ⟨Fr, R, as, δ, C, S, by rw [ef]; exact q⟩
    | ok x C' =>
      rw [ef] at q
      cases x with
      | lst ds =>
        refine .inl ⟨Fr, R, as, δ, C, S, ?_⟩
        rw [ef]
        intro R1 as1 v H1 g1 S1 p
        cases p with
        | lst ha hl r => exact ⟨_, rfl, ⟨_, SqL.of (S1.sub _ _ ha)⟩, q R1 as1 _ H1 g1 S1 ⟨walkD_list ha r, by rw [← r.length]; exact hl⟩⟩
      | scr ns =>
        refine .inl ⟨Fr, R, as, δ, C, S, ?_⟩
        rw [ef]
        intro R1 as1 v H1 g1 S1 p
        cases p with
        | scr ha hl => exact ⟨_, rfl, ⟨_, S1.sub.sqL ha⟩, q R1 as1 _ H1 g1 S1 ⟨walkD_scr ha, by rw [List.length_map]; exact hl⟩⟩
      | tup ds =>
        refine .inr (.inl ⟨Fr, R, as, δ, C, S, ?_⟩)
        rw [ef]
        intro R1 as1 v H1 g1 S1 p
        cases p with
        | tup ha hl r => exact ⟨_, rfl, ⟨_, S1.sub.sqT ha⟩, q R1 as1 _ H1 g1 S1 ⟨walkD_tup ha r, by rw [← r.length]; exact hl⟩⟩
      | str z =>
        refine .inr (.inr ⟨Fr, R, as, δ, C, S, ?_⟩)
        rw [ef]
        intro R1 as1 v H1 g1 S1 p
        cases p with
        | str _ hl => exact ⟨_, rfl, q R1 as1 _ H1 g1 S1 ⟨walkD_str, by unfold signs; rw [List.length_map, Array.length_toList]; exact hl⟩⟩
      | _ => exact q.elim
/-! range, enumerate, zip -/
def rngD (lo hi : Int) : List D := (List.range (hi - lo).toNat).map fun k => .int (lo + (k : Nat))
theorem walkD_range {K : PySem.W.Frag} {R : Hp} {lo : Int} {n : Nat} : WalkD K (Itr lo n) R ((List.range n).map fun k => D.int (lo + (k : Nat))) := by
  refine ⟨fun _ => True, _, by rw [List.length_map, List.length_range]; exact walk_range, fun _ _ => trivial, fun i H x H' R2 d s1 s2 y e => ?_⟩
  obtain ⟨rfl, rfl⟩ := y
  rw [List.getElem?_map] at e
  cases q : (List.range n)[i]? with
  | none => rw [q] at e; cases e
  | some k =>
    rw [q] at e
    cases e
    obtain ⟨h1, h2⟩ := List.getElem?_eq_some_iff.mp q
    rw [List.getElem_range] at h2
    subst h2
    exact ⟨R2, Sub.refl _, s2, Sub.refl _, fun _ _ _ => rfl, .int _⟩
def inR (i : Int) : Prop := -(2 ^ 62) ≤ i ∧ i < 2 ^ 62
instance (i : Int) : Decidable (inR i) := inferInstanceAs (Decidable (_ ∧ _))
def fRng1 (f : EF D) : EF (List D) := bnd f fun x => bnd (opt (asI x)) fun j => if inR j ∧ j.toNat ≤ sizeLine then ret (rngD 0 j) else stuck
def fRng2 (f g : EF D) : EF (List D) := bnd f fun x => bnd g fun y => bnd (opt (asI x)) fun i => bnd (opt (asI y)) fun j => if (inR i ∧ inR j) ∧ (j - i).toNat ≤ sizeLine then ret (rngD i j) else stuck
theorem di_range1 {tg a : Expr} {p : Pos} {f : EF D} (hg : Gl X "range") (hm : X.mg "range" = none) (h : DD X kx a f) (hs : starEach [a] X.env = [(false, eval a X.env)]) : DI X kx tg (.Call (.Name "range" p) [a] [] pos) (fRng1 f) :=
  weakI (pi_range1 hg hm (pa_cons h pa_nil hs) hs) fun σ H Rk ⟨Fr, R, as, δ, C, S, q⟩ => lft_bnd S q fun R1 as1 C1 v x H1 g1 S1 px h1 => by
    obtain ⟨j, ej, h2⟩ := post_bopt h1
    cases px <;> try cases ej
    rename_i j
    by_cases hr : inR j ∧ j.toNat ≤ sizeLine
    · rw [if_pos hr] at h2
      refine ⟨j, rfl, hr.1.1, hr.1.2, h2 R1 as1 _ H1 (Grow.refl _ _) S1 ?_⟩
      unfold PIt rngD
      rw [Int.sub_zero]
      exact ⟨walkD_range, by rw [List.length_map, List.length_range]; exact hr.2⟩
    · rw [if_neg hr] at h2; exact h2.elim
theorem di_range2 {tg a b : Expr} {p : Pos} {f g : EF D} (hg : Gl X "range") (hm : X.mg "range" = none) (h : DD X kx a f) (h' : DD X kx b g) (hs : starEach [a, b] X.env = [(false, eval a X.env), (false, eval b X.env)]) (hs2 : starEach [b] X.env = [(false, eval b X.env)]) :
    DI X kx tg (.Call (.Name "range" p) [a, b] [] pos) (fRng2 f g) :=
  weakI (pi_range2 hg hm (pa_cons h (pa_cons h' pa_nil hs2) (by rw [hs, hs2])) hs hs2) fun σ H Rk ⟨Fr, R, as, δ, C, S, q⟩ => lft_bnd S q fun R1 as1 C1 v x H1 g1 S1 px h1 => lft_bnd S1 h1 fun R2 as2 C2 u y H2 g2 S2 py h2 => by
    obtain ⟨i, ei, h3⟩ := post_bopt h2
    obtain ⟨j, ej, h4⟩ := post_bopt h3
    cases px <;> try cases ei
    cases py <;> try cases ej
    by_cases hr : (inR i ∧ inR j) ∧ (j - i).toNat ≤ sizeLine
    · rw [if_pos hr] at h4
      exact ⟨i, j, rfl, ⟨hr.1.1.1, hr.1.1.2, hr.1.2.1, hr.1.2.2⟩, h4 R2 as2 _ H2 (Grow.refl _ _) S2 ⟨walkD_range, by unfold rngD; rw [List.length_map, List.length_range]; exact hr.2⟩⟩
    · rw [if_neg hr] at h4; exact h4.elim
/-- pairs, laid anew each turn -/
theorem walkD_pair {K : PySem.W.Frag} {R : Hp} {J : It} {n : Nat} {G : Hp → Prop} {f g : Nat → Option V} {ds : List D} (w : Walk J n G (YPair f g)) (hn : n = ds.length) (hG : ∀ H, Sub R H → G H)
    (hp : ∀ i d x y, ds[i]? = some d → f i = some x → g i = some y → ∃ a b, d = .tup [a, b] ∧ Rp K R x a ∧ Rp K R y b) : WalkD K J R ds := by
  refine ⟨G, _, hn ▸ w, hG, fun i H v H' R2 d s1 s2 y e => ?_⟩
  obtain ⟨T, x, z, rfl, hT, rfl, ex, ez⟩ := y
  obtain ⟨a, b, rfl, pa, pb⟩ := hp i d x z e ex ez
  have hn : R2 T = none := by
    cases q : R2 T with
    | none => rfl
    | some u => rw [s2 _ _ q] at hT; cases hT
  refine ⟨upd R2 T (.tup [x, z]), sub_upd hn, s2.both, sub_upd hT, fun a o ha => upd_ne (ne_of_none ha hT), ?_⟩
  have s3 : Sub R (upd R2 T (.tup [x, z])) := s1.trans (sub_upd hn)
  exact .tup (SqT.of upd_same) (by show 2 ≤ sizeLine; decide) (.cons (Rp.mono s3 pa) (.cons (Rp.mono s3 pb) .nil))
def enD (ds : List D) : List D := ds.mapIdx fun i d => .tup [.int (i : Nat), d]
theorem walkD_enum {K : PySem.W.Frag} {R : Hp} {a : Addr} {vs : List V} {ds : List D} (h : SqL K R a vs) (r : RpL K R vs ds) : WalkD K (Ite K a) R (enD ds) := by
  refine walkD_pair walk_enum (by unfold enD; rw [List.length_mapIdx, r.length]) (fun H s => s.sqL h) fun i d x y e ex ey => ?_
  unfold enD at e
  rw [List.getElem?_mapIdx] at e
  obtain ⟨d2, ed, p⟩ := r.get' ey
  rw [ed] at e
  cases e
  cases ex
  exact ⟨_, _, rfl, .int _, p⟩
def listD : D → Option (List D)
  | .lst ds => some ds
  | .scr ns => some (ns.map D.int)
  | _ => none
def fEnum (f : EF D) : EF (List D) := bnd f fun x => bnd (opt (listD x)) fun ds => ret (enD ds)
theorem di_enum {elts : List Expr} {kk : Nat} {tpos p : Pos} {a : Expr} {f : EF D} (hK : kx.K = X.K) (hg : Gl X "enumerate") (hm : X.mg "enumerate" = none) (h : DD X kx a f) (hs : starEach [a] X.env = [(false, eval a X.env)]) : DI X kx (.Tuple elts kk tpos) (.Call (.Name "enumerate" p) [a] [] pos) (fEnum f) :=
  weakI (pi_enum hg hm (pa_cons h pa_nil hs) hs) fun σ H Rk ⟨Fr, R, as, δ, C, S, q⟩ => lft_bnd S q fun R1 as1 C1 v x H1 g1 S1 px h1 => by
    obtain ⟨K, XR, Wx⟩ := kx
    cases hK
    obtain ⟨ds, ed, h2⟩ := post_bopt h1
    cases px <;> try cases ed
    · rename_i ha hl r
      exact ⟨_, _, rfl, SqL.of (S1.sub _ _ ha), h2 R1 as1 _ H1 (Grow.refl _ _) S1 ⟨walkD_enum (SqL.of ha) r, by unfold enD; rw [List.length_mapIdx, ← r.length]; exact hl⟩⟩
    · rename_i ha hl
      exact ⟨_, _, rfl, S1.sub.sqL ha, h2 R1 as1 _ H1 (Grow.refl _ _) S1 ⟨walkD_enum ha (rpInts _), by unfold enD; rw [List.length_mapIdx, List.length_map]; exact hl⟩⟩
def zipD (xs ys : List D) : List D := (xs.zip ys).map fun p => .tup [p.1, p.2]
def fZip (f g : EF D) : EF (List D) := bnd f fun x => bnd g fun y => match x, y with
  | .lst xs, .lst ys => ret (zipD xs ys)
  | .tup xs, .tup ys => ret (zipD xs ys)
  | _, _ => stuck
theorem walk_zipT {K : PySem.W.Frag} {a b : Addr} {xs ys : List V} {n : Nat} (hn : n = min xs.length ys.length) : Walk (RZ.ItzT K a b) n (fun H => SqT K H a xs ∧ SqT K H b ys) (YPair (fun i => xs[i]?) (fun i => ys[i]?)) := by
  subst hn
  refine ⟨fun i _ hi q => ?_, fun _ q => ⟨xs, ys, q.1, q.2, by omega⟩, fun i H v H' _ q y => ?_⟩
  · have h1 : i < xs.length := by omega
    have h2 : i < ys.length := by omega
    exact ⟨xs, ys, xs[i], ys[i], q.1, q.2, by simp [h1], by simp [h2]⟩
  · obtain ⟨T, x, z, h1, h2, h3, h4, h5⟩ := y
    exact ⟨T, x, z, h1, h2, h3, h4 xs q.1, h5 ys q.2⟩
theorem zip_get {xs ys : List D} {vs us : List V} {K : PySem.W.Frag} {R : Hp} (r1 : RpL K R vs xs) (r2 : RpL K R us ys) {i : Nat} {d : D} {x y : V} (e : (zipD xs ys)[i]? = some d) (ex : vs[i]? = some x) (ey : us[i]? = some y) : ∃ a b, d = .tup [a, b] ∧ Rp K R x a ∧ Rp K R y b := by
  obtain ⟨a, ea, pa⟩ := r1.get' ex
  obtain ⟨b, eb, pb⟩ := r2.get' ey
  unfold zipD at e
  rw [List.getElem?_map, List.getElem?_zip_eq_some.mpr (show xs[i]? = some (a, b).1 ∧ ys[i]? = some (a, b).2 from ⟨ea, eb⟩)] at e
  cases e
  exact ⟨a, b, rfl, pa, pb⟩
theorem di_zip {elts : List Expr} {kk : Nat} {tpos p : Pos} {a b : Expr} {f g : EF D} (hK : kx.K = X.K) (hg : Gl X "zip") (hm : X.mg "zip" = none) (h : DD X kx a f) (h' : DD X kx b g) (hs : starEach [a, b] X.env = [(false, eval a X.env), (false, eval b X.env)]) (hs2 : starEach [b] X.env = [(false, eval b X.env)]) :
    DI X kx (.Tuple elts kk tpos) (.Call (.Name "zip" p) [a, b] [] pos) (fZip f g) :=
  weakI (RZ.pi_zipA hg hm (pa_cons h (pa_cons h' pa_nil hs2) (by rw [hs, hs2])) (by rw [hs, hs2]) (by rw [hs2]; rfl)) fun σ H Rk ⟨Fr, R, as, δ, C, S, q⟩ => lft_bnd S q fun R1 as1 C1 v x H1 g1 S1 px h1 => lft_bnd S1 h1 fun R2 as2 C2 u y H2 g2 S2 py h2 => by
    obtain ⟨K, XR, Wx⟩ := kx
    cases hK
    have px := Rp.mono g2.1 px
    cases px <;> cases py <;> try exact h2.elim
    · rename_i ha hl r _ _ _ hb hl2 r2
      exact ⟨_, _, _, _, rfl, .inl ⟨SqL.of (S2.sub _ _ ha), SqL.of (S2.sub _ _ hb), h2 R2 as2 _ H2 (Grow.refl _ _) S2 ⟨walkD_pair (walk_zip rfl) (by unfold zipD; rw [List.length_map, List.length_zip, r.length, r2.length]) (fun H s => ⟨SqL.of (s _ _ ha), SqL.of (s _ _ hb)⟩) fun i d x y e ex ey => zip_get r r2 e ex ey, by unfold zipD; rw [List.length_map, List.length_zip, ← r.length]; omega⟩⟩⟩
    · rename_i ha hl r _ _ _ hb hl2 r2
      refine ⟨_, _, _, _, rfl, .inr ⟨S2.sub.sqT ha, S2.sub.sqT hb, h2 R2 as2 _ H2 (Grow.refl _ _) S2 ⟨?_, by unfold zipD; rw [List.length_map, List.length_zip, ← r.length]; omega⟩⟩⟩
      exact walkD_pair (walk_zipT rfl) (by unfold zipD; rw [List.length_map, List.length_zip, r.length, r2.length]) (fun H s => ⟨s.sqT ha, s.sqT hb⟩) fun i d x y e ex ey => zip_get r r2 e ex ey
end
end FL

/-! part FLj -/
set_option maxRecDepth 100000
set_option maxHeartbeats 4000007
/-! FL, part j: for, while, comprehensions. -/
namespace FL
open L2 PyProof.Rows PySem.Spec PySem

def loopF (t : TF) (body : SF) : List D → SF
  | [] => fNext
  | d :: ds => fun δ C => match t d δ with
    | none => none
    | some δ1 => match body δ1 C with
      | none => none
      | some (.exc e δ' C') => some (.exc e δ' C')
      | some (.ok (.nx δ') C') => loopF t body ds δ' C'
      | some (.ok (.ct δ') C') => loopF t body ds δ' C'
      | some (.ok (.bk δ') C') => some (.ok (.nx δ') C')
      | some (.ok (.rt r) C') => some (.ok (.rt r) C')
def fFor (fi : EF (List D)) (t : TF) (body : SF) : SF := bnd fi fun ds => loopF t body ds
def fWhile (fc : EF Bool) (body : SF) : Nat → SF
  | 0 => fun _ _ => none
  | n + 1 => bnd fc fun c δ C => match c with
    | false => some (.ok (.nx δ) C)
    | true => match body δ C with
      | none => none
      | some (.exc e δ' C') => some (.exc e δ' C')
      | some (.ok (.nx δ') C') => fWhile fc body n δ' C'
      | some (.ok (.ct δ') C') => fWhile fc body n δ' C'
      | some (.ok (.bk δ') C') => some (.ok (.nx δ') C')
      | some (.ok (.rt r) C') => some (.ok (.rt r) C')
section
variable {X : Cx} {kx : KX} {pos : Pos} {Fr R R1 : Hp} {as as1 : List Addr} {δ : Slots} {C : Store} {σ : L2.St} {H : Hp} {Dn : Ends} {e : Expr} {es : List Expr}
theorem drop_cons {α : Type} {xs : List α} {i : Nat} {x : α} (h : xs[i]? = some x) : xs.drop i = x :: xs.drop (i + 1) := by
  obtain ⟨h1, h2⟩ := List.getElem?_eq_some_iff.mp h
  rw [List.drop_eq_getElem_cons h1, h2]
theorem ds_for {tg iter : Expr} {body : List Stmt} {fi : EF (List D)} {t : TF} {ix : List Nat} {s : SF} (hp : PassesOwn (model X.prog X.w) X.A X.env X.xe) (hc : X.calm = true) (hi : DI X kx tg iter fi) (hg : DG X kx tg ix t) (hb : DSs X kx body s)
    (hs : ∀ x, foldedSetIterable iter X.env x = pure x) : DS X kx (.For tg iter body [] pos) (fFor fi t s) :=
  weakS (ps_for hp hc hi hg hb hs) fun Dn σ H ⟨Fr, R, as, δ, C, S, h⟩ => lfs_bnd S h fun R1 as1 C1 J ds H1 g1 S1 pw h1 => by
    obtain ⟨⟨G, Y, w, hG, hY⟩, hl⟩ := pw
    refine for_it w (fun i σ H => ∃ R as δ C, Grow R1 as1 R as ∧ StOk kx.K Fr R as δ C σ H ∧ PostS kx Fr R as Dn (loopF t s (ds.drop i) δ C)) ⟨R1, as1, δ, C1, Grow.refl _ _, S1, h1⟩ ?_ ?_ ?_
    · rintro i σ H _ ⟨R, as, δ, C, g, S, _⟩
      exact hG H (g.1.trans S.sub)
    · rintro i x σ H H' hi ⟨R, as, δ, C, g, S, q⟩ y
      obtain ⟨d, ed⟩ : ∃ d, ds[i]? = some d := ⟨ds[i], by simp [hi]⟩
      obtain ⟨R', s1, s2, s3, s4, px⟩ := hY i H x H' R d g.1 S.sub y ed
      have S' := S.yield s1 s2 s3 s4
      have g' : Grow R as R' as := ⟨s1, [], by simp⟩
      rw [drop_cons ed] at q
      have q : PostS kx Fr R as Dn (match t d δ with
        | none => none
        | some δ1 => match s δ1 C with
          | none => none
          | some (.exc e δ' C') => some (.exc e δ' C')
          | some (.ok (.nx δ') C') => loopF t s (ds.drop (i + 1)) δ' C'
          | some (.ok (.ct δ') C') => loopF t s (ds.drop (i + 1)) δ' C'
          | some (.ok (.bk δ') C') => some (.ok (.nx δ') C')
          | some (.ok (.rt r) C') => some (.ok (.rt r) C')) := q
      cases et : t d δ with
      | none => rw [et] at q; exact q.elim
      | some δ1 =>
        simp only [et] at q
        refine ⟨Fr, R', as, δ, C, d, δ1, S', px, et, fun σ2 S2 _ => ⟨Fr, R', as, δ1, C, S2, ?_⟩⟩
        cases es : s δ1 C with
        | none => simp only [es] at q; exact q.elim
        | some o =>
          cases o with
          | exc e δ' C' => simp only [es] at q; exact PostX.grow g' q
          | ok fl C' =>
            cases fl with
            | nx δ' =>
              simp only [es] at q
              exact fun R2 as2 σ' H2 g2 S2 => ⟨R2, as2, δ', C', (g.trans g').trans g2, S2, PostS.grow (g'.trans g2) q⟩
            | ct δ' =>
              simp only [es] at q
              exact fun R2 as2 σ' H2 g2 S2 => ⟨R2, as2, δ', C', (g.trans g').trans g2, S2, PostS.grow (g'.trans g2) q⟩
            | bk δ' =>
              simp only [es] at q
              exact fun R2 as2 σ' H2 g2 S2 => q R2 as2 σ' H2 (g'.trans g2) S2
            | rt r =>
              simp only [es] at q
              exact fun R2 as2 v H2 g2 S2 p => q R2 as2 v H2 (g'.trans g2) S2 p
    · rintro σ H ⟨R, as, δ, C, g, S, q⟩
      rw [List.drop_length] at q
      exact q.nx S
theorem ds_while {c : Expr} {body : List Stmt} {fc : EF Bool} {s : SF} {n : Nat} (hp : PassesOwn (model X.prog X.w) X.A X.env X.xe) (hc : DT X kx c fc) (hb : DSs X kx body s) : DS X kx (.While c body [] pos) (fWhile fc s n) :=
  weakS (ps_while hp hc hb) fun Dn σ H ⟨Fr, R, as, δ, C, S, h⟩ => by
    refine ⟨fun m σ H => ∃ R as δ C, StOk kx.K Fr R as δ C σ H ∧ PostS kx Fr R as Dn (fWhile fc s m δ C), ⟨n, R, as, δ, C, S, h⟩, ?_⟩
    rintro m σ H ⟨R, as, δ, C, S, q⟩
    cases m with
    | zero => exact q.elim
    | succ m =>
      refine lfs_bnd S q fun R1 as1 C1 b b' H1 g1 S1 pb q1 => ?_
      cases pb
      cases b with
      | false => rw [if_neg Bool.false_ne_true]; exact q1.nx S1
      | true =>
        rw [if_pos rfl]
        refine ⟨fun σ H => ∃ R as δ C, StOk kx.K Fr R as δ C σ H ∧ PostS kx Fr R as Dn (fWhile fc s m δ C), fun σ' H' z => ⟨m, Nat.lt_succ_self m, z⟩, Fr, R1, as1, δ, C1, S1, ?_⟩
        cases es : s δ C1 with
        | none => simp only [es] at q1; exact q1.elim
        | some o =>
          cases o with
          | exc e δ' C' => simp only [es] at q1; exact q1
          | ok fl C' =>
            cases fl with
            | nx δ' => simp only [es] at q1; exact fun R2 as2 σ' H2 g2 S2 => ⟨R2, as2, δ', C', S2, PostS.grow g2 q1⟩
            | ct δ' => simp only [es] at q1; exact fun R2 as2 σ' H2 g2 S2 => ⟨R2, as2, δ', C', S2, PostS.grow g2 q1⟩
            | bk δ' => simp only [es] at q1; exact fun R2 as2 σ' H2 g2 S2 => q1 R2 as2 σ' H2 g2 S2
            | rt r => simp only [es] at q1; exact fun R2 as2 v H2 g2 S2 p => q1 R2 as2 v H2 g2 S2 p

/-! ### frames, wiped slots -/
theorem StoreOk.frame {K : PySem.W.Frag} {D : Addr} {o : HO} (S : StoreOk K Fr R as C H) (h1 : R D = none) (h2 : D ∉ as) (h3 : H D = some o) : StoreOk K (upd Fr D o) R as C H :=
  ⟨S.sub, S.len, S.nd, S.cell, S.there, fun a u e => by
    by_cases ha : a = D
    · subst ha; rw [upd_same] at e; cases e; exact ⟨h3, h1, h2⟩
    · rw [upd_ne ha] at e; exact S.fr a u e⟩
theorem StoreOk.unframe {K : PySem.W.Frag} {D : Addr} {o : HO} (S : StoreOk K (upd Fr D o) R as C H) (hf : Fr D = none) : StoreOk K Fr R as C H :=
  ⟨S.sub, S.len, S.nd, S.cell, S.there, fun a u e => S.fr a u (by rw [upd_ne (fun z => by rw [z, hf] at e; cases e)]; exact e)⟩
theorem StoreOk.reframe {K : PySem.W.Frag} {D : Addr} {o o' : HO} (S : StoreOk K (upd Fr D o) R as C H) : StoreOk K (upd Fr D o') R as C (upd H D o') := by
  obtain ⟨f1, f2, f3⟩ := S.fr D o upd_same
  refine ⟨S.sub.upd f2, S.len, S.nd, fun i a c ha hc => ?_, fun a h => ?_, fun a u e => ?_⟩
  · have q := S.cell i a c ha hc
    have ne : a ≠ D := fun z => f3 (by rw [← z]; exact List.mem_of_getElem? ha)
    cases c with
    | fro x => exact q
    | lst ws => obtain ⟨q1, u, q2, q3⟩ := q; exact ⟨q1, u, by rw [upd_ne ne]; exact q2, q3⟩
    | dct ws => obtain ⟨q1, u, q2, q3⟩ := q; exact ⟨q1, u, by rw [upd_ne ne]; exact q2, q3⟩
  · rw [upd_ne (fun z => f3 (by rw [← z]; exact h))]
    exact S.there a h
  · by_cases ha : a = D
    · subst ha; rw [upd_same] at e; cases e; exact ⟨upd_same, f2, f3⟩
    · rw [upd_ne ha] at e
      obtain ⟨q1, q2, q3⟩ := S.fr a u (by rw [upd_ne ha]; exact e)
      exact ⟨by rw [upd_ne ha]; exact q1, q2, q3⟩
def wipeD (δ : Slots) : List Nat → Slots
  | [] => δ
  | v :: vs => (wipeD δ vs).set v none
theorem wipeD_len (δ : Slots) : ∀ vs, (wipeD δ vs).length = δ.length
  | [] => rfl
  | v :: vs => by unfold wipeD; rw [List.length_set, wipeD_len δ vs]
theorem StOk.wipe {K : PySem.W.Frag} (S : StOk K Fr R as δ C σ H) : ∀ vs : List Nat, StOk K Fr R as (wipeD δ vs) C (L2.wipe σ vs) H
  | [] => S
  | v :: vs => by
    have ih := S.wipe vs
    refine ⟨ih.toStoreOk, by unfold wipeD L2.wipe; rw [List.length_set, List.length_set]; exact ih.slen, fun i w h => ?_⟩
    unfold wipeD at h
    unfold L2.wipe
    by_cases hi : i = v
    · subst hi
      by_cases hl : i < (wipeD δ vs).length
      · rw [List.getElem?_set_self hl] at h; cases h
      · rw [List.getElem?_eq_none (by simpa using hl)] at h; cases h
    · rw [List.getElem?_set_ne (Ne.symm hi)] at h ⊢
      exact ih.slot i w h
theorem wipe_wipe (σ : L2.St) (vs : List Nat) : L2.wipe (L2.wipe σ vs) vs = L2.wipe σ vs := by
  refine List.ext_getElem? fun j => ?_
  rw [wipe_get, wipe_length, wipe_get]
  by_cases hm : j ∈ vs
  · rw [if_pos hm, if_pos hm]
  · rw [if_neg hm, if_neg hm]

/-! ### list comprehensions -/
def compL (own : List Nat) (t : TF) (cond : EF Bool) (elt : EF D) : List D → Slots → Store → Option (List D × Store)
  | [], _, C => some ([], C)
  | d :: ds, δ, C => match t d (wipeD δ own) with
    | none => none
    | some δ1 => match cond δ1 C with
      | some (.ok false C1) => compL own t cond elt ds δ C1
      | some (.ok true C1) => (match elt δ1 C1 with
        | some (.ok y C2) => (match compL own t cond elt ds δ C2 with
          | some (r, C3) => some (y :: r, C3)
          | none => none)
        | _ => none)
      | _ => none
def fLC (fi : EF (List D)) (own : List Nat) (t : TF) (cond : EF Bool) (elt : EF D) : EF Res := bnd fi fun ds δ C => match compL own t cond elt ds δ C with
  | some (acc, C') => some (.ok (.new (.lst acc)) C')
  | none => none
/-- within a comprehension nothing may be raised -/
def KX.nox (kx : KX) : KX := ⟨kx.K, kx.XR, fun _ _ _ _ => False⟩
abbrev Blk (X : Cx) (scope : Scope) (P : Cx → Prop) : Prop := ∀ (s : Shared) (H : Hp) (C : Addr) (cl : List (Str × Addr)) (fp : List Addr), P (X.blk s H scope (compEnvC scope cl C X.env) fp)
theorem lc_read {K : PySem.W.Frag} (hK : kx.K = K) {own : List (Str × Nat)} {fi : EF (List D)} {t : TF} {ix : List Nat} {cond : EF Bool} {fe : EF D} (hix : ∀ i ∈ ix, i ∈ own.map (·.2)) {Q : V → Hp → Prop} (h : Lft kx (PRes kx.K) (fLC fi (own.map (·.2)) t cond fe) σ H Q) :
    tLc (Lft kx (PIt kx.K) fi) (LG kx.nox ix t) (Lft kx.nox PB cond) (Lft kx.nox (PD kx.K) fe) (own.map (·.2)) σ H Q := by
  obtain ⟨Fr, R, as, δ, C, S, h⟩ := h
  exact lft_bnd S h fun R1 as1 C1 J ds H1 g1 S1 pw h1 => fun D hD => by
    obtain ⟨⟨G, Y, w, hG, hY⟩, hl⟩ := pw
    obtain ⟨S2, hn, hm, hf, ho⟩ := S1.laid (o := .lst []) hD
    have h1 : Post kx (PRes kx.K) Fr R1 as1 δ σ Q (match compL (own.map (·.2)) t cond fe ds δ C1 with
      | some (acc, C') => some (.ok (.new (.lst acc)) C')
      | none => none) := h1
    generalize own.map (·.2) = vs at *
    cases ec : compL vs t cond fe ds δ C1 with
    | none => rw [ec] at h1; exact h1.elim
    | some r =>
      obtain ⟨acc, C'⟩ := r
      rw [ec] at h1
      have h1 : Post kx (PRes kx.K) Fr R1 as1 δ σ Q (some (.ok (.new (.lst acc)) C')) := h1
      refine lc_it w (fun i H => ∃ R as C accv accd rest, Grow R1 as1 R as ∧ StOk kx.K (upd Fr D (.lst accv)) R as (wipeD δ vs) C (L2.wipe σ vs) H ∧ RpL kx.K R accv accd ∧ accv.length ≤ i ∧ compL vs t cond fe (ds.drop i) δ C = some (rest, C') ∧ acc = accd ++ rest)
        ⟨R1, as1, C1, [], [], acc, Grow.refl _ _, ?_, .nil, Nat.le_refl _, ec, rfl⟩ ?_ ?_ ?_
      · have S3 : StOk kx.K (upd Fr D (.lst [])) R1 as1 δ C1 σ (upd H1 D (.lst [])) := S1.grow (Grow.refl _ _) (S2.toStoreOk.frame hn hm ho)
        exact S3.wipe vs
      · rintro i H _ ⟨R, as, C, accv, accd, rest, g, S, _⟩
        exact hG H (g.1.trans S.sub)
      · rintro i x H H' hi ⟨R, as, C, accv, accd, rest, g, S, ra, hla, q, eacc⟩ y
        obtain ⟨d, ed⟩ : ∃ d, ds[i]? = some d := ⟨ds[i], by simp [hi]⟩
        obtain ⟨R', s1, s2, s3, s4, px⟩ := hY i H x H' R d g.1 S.sub y ed
        have S' := S.yield s1 s2 s3 s4
        have g' : Grow R as R' as := ⟨s1, [], by simp⟩
        rw [drop_cons ed] at q
        unfold compL at q
        cases et : t d (wipeD δ vs) with
        | none => simp only [et] at q; cases q
        | some δ1 =>
          simp only [et] at q
          refine ⟨upd Fr D (.lst accv), R', as, wipeD δ vs, C, d, δ1, S', px, et, fun σ2 S2 wp => ⟨(wp vs hix).trans (wipe_wipe σ vs), ⟨upd Fr D (.lst accv), R', as, δ1, C, S2, ?_⟩⟩⟩
          cases eb : cond δ1 C with
          | none => simp only [eb] at q; cases q
          | some o =>
            cases o with
            | exc e δ' C2 => simp only [eb] at q; cases q
            | ok b C2 =>
              intro R3 as3 b' H3 g3 S3 pb
              cases pb
              cases b with
              | false =>
                simp only [eb] at q
                rw [if_neg Bool.false_ne_true]
                exact ⟨R3, as3, C2, accv, accd, rest, (g.trans g').trans g3, S'.grow g3 S3.toStoreOk, RpL.mono (g'.trans g3).1 ra, Nat.le_succ_of_le hla, q, eacc⟩
              | true =>
                simp only [eb] at q
                rw [if_pos rfl]
                refine ⟨upd Fr D (.lst accv), R3, as3, δ1, C2, S3, ?_⟩
                cases ee : fe δ1 C2 with
                | none => simp only [ee] at q; cases q
                | some o =>
                  cases o with
                  | exc e δ' C3 => simp only [ee] at q; cases q
                  | ok y C3 =>
                    simp only [ee] at q
                    cases er : compL vs t cond fe (ds.drop (i + 1)) δ C3 with
                    | none => simp only [er] at q; cases q
                    | some r =>
                      obtain ⟨rs, C4⟩ := r
                      simp only [er] at q
                      cases q
                      intro R4 as4 v H4 g4 S4 py
                      obtain ⟨f1, f2, f3⟩ := S4.fr D _ upd_same
                      have G4 := (g.trans g').trans (g3.trans g4)
                      refine ⟨accv, f1, by omega, R4, as4, C3, accv ++ [v], accd ++ [y], rs, G4, ?_, (RpL.mono (g'.trans (g3.trans g4)).1 ra).append (.cons py .nil), by rw [List.length_append]; show accv.length + 1 ≤ i + 1; omega, er, by rw [eacc, List.append_assoc]; rfl⟩
                      have S5 : StOk kx.K (upd Fr D (.lst accv)) R4 as4 (wipeD δ vs) C3 (L2.wipe σ vs) H4 := S'.grow (g3.trans g4) S4.toStoreOk
                      exact S5.grow (Grow.refl _ _) S5.toStoreOk.reframe
      · rintro H ⟨R, as, C, accv, accd, rest, g, S, ra, hla, q, eacc⟩
        rw [List.drop_length] at q
        cases q
        rw [List.append_nil] at eacc
        subst eacc
        obtain ⟨f1, f2, f3⟩ := S.fr D _ upd_same
        exact h1 R as _ H g (S1.grow g (S.toStoreOk.unframe hf)) ⟨D, rfl, f2, f3, hf, _, f1, ra, by omega⟩
theorem de_lc {elt tg iter : Expr} {ifs : List Expr} {scope : Scope} {own : List (Str × Nat)} {fi : EF (List D)} {t : TF} {ix : List Nat} {cond : EF Bool} {fe : EF D} (hc : X.calm = true) (hN : X.N.Nodup) (hi : DI X kx tg iter fi) (ok : BlkOk X.N X.env.scope scope own)
    (hix : ∀ i ∈ ix, i ∈ own.map (·.2)) (hg : Blk X scope fun Y => DG Y kx.nox tg ix t) (ht : Blk X scope fun Y => PTs Y ifs (Lft kx.nox PB cond)) (he : Blk X scope fun Y => DD Y kx.nox elt fe) (hs : ∀ x, foldedSetIterable iter X.env x = pure x) :
    DE X kx (.ListComp elt [⟨tg, iter, ifs, 0⟩] scope pos) (fLC fi (own.map (·.2)) t cond fe) :=
  weakE (pe_lc hc hN hi ok hg ht he hs) fun σ H Q h => lc_read rfl hix h
/-- name = [..], stored within -/
theorem ds_setLc {i : Nat} {y : Str} {py : Pos} {spos : Pos} {elt tg iter : Expr} {ifs : List Expr} {scope : Scope} {own : List (Str × Nat)} {fi : EF (List D)} {t : TF} {ix : List Nat} {cond : EF Bool} {fe : EF D} {rw : Res → EF W} (hc : X.calm = true) (hN : X.N.Nodup) (hi : DI X kx tg iter fi) (ok : BlkOk X.N X.env.scope scope own)
    (hix : ∀ i ∈ ix, i ∈ own.map (·.2)) (hg : Blk X scope fun Y => DG Y kx.nox tg ix t) (ht : Blk X scope fun Y => PTs Y ifs (Lft kx.nox PB cond)) (he : Blk X scope fun Y => DD Y kx.nox elt fe) (hs : ∀ x, foldedSetIterable iter X.env x = pure x)
    (hy : X.N[i]? = some y) (hyl : X.env.scope.names.lookup y = some .local) (hsw : swapsWith (.ListComp elt [⟨tg, iter, ifs, 0⟩] scope pos) (some (.Name y py)) spos.line X.env = pure true)
    (hr : ∀ {Fr R as δ C σ H v r} {Q : V → Hp → Prop}, StOk kx.K Fr R as δ C σ H → PRes kx.K Fr R as H v r → Post kx (PW' kx.K) Fr R as δ σ Q (rw r δ C) → Q v H) :
    DS X kx (.Assign [.Name y py] (.ListComp elt [⟨tg, iter, ifs, 0⟩] scope pos) spos) (fSet (bnd (fLC fi (own.map (·.2)) t cond fe) rw) i) :=
  weakS (ps_setLc hc hN hy hyl hsw hi ok hg ht he hs) fun Dn σ H ⟨Fr, R, as, δ, C, S, h⟩ => by
    have q : Lft kx (PW' kx.K) (bnd (fLC fi (own.map (·.2)) t cond fe) rw) σ H fun v H1 => Dn.nx (σ.set i (some v)) H1 := lfs_bnd S h fun R1 as1 C1 v w H1 g1 S1 p1 h1 => h1 R1 as1 _ H1 (Grow.refl _ _) (S1.set i p1)
    exact lc_read rfl hix (lft_imp q fun Fr R as δ C1 b x H1 S p z => hr S p z)
end
end FL

/-! part FLk -/
set_option maxRecDepth 100000
set_option maxHeartbeats 4000007
/-! FL, part k: dict comprehensions, dict of pairs, sorted, items stored. -/
namespace FL
open L2 PyProof.Rows PySem.Spec PySem

/-! ### dicts as data -/
def putG {α : Type} (kvs : List (Key × α)) (k : Key) (v : α) : List (Key × α) :=
  if (kvs.any fun kv => decide (kv.1 = k)) = true then kvs.map (fun kv => if kv.1 = k then (kv.1, v) else kv) else kvs ++ [(k, v)]
def asK : D → Option Key
  | .int i => some (.inl i)
  | .str x => some (.inr x)
  | _ => none
section
variable {X : Cx} {kx : KX} {pos : Pos} {Fr R R1 : Hp} {as as1 : List Addr} {δ : Slots} {C : Store} {σ : L2.St} {H : Hp} {Dn : Ends} {e : Expr} {es : List Expr}
theorem asK_ok {K : PySem.W.Frag} {v : V} {d : D} {k : Key} (p : Rp K R v d) (h : asK d = some k) : v = kV k := by
  cases p <;> first | (cases h; rfl) | cases h
theorem RDk.any {K : PySem.W.Frag} {k : Key} : ∀ {vs : List (Key × V)} {ws : List (Key × D)}, RDk K R vs ws → (vs.any fun kv => decide (kv.1 = k)) = (ws.any fun kv => decide (kv.1 = k))
  | _, _, .nil => rfl
  | _, _, .cons _ r => by rw [List.any_cons, List.any_cons, RDk.any r]
theorem RDk.mapPut {K : PySem.W.Frag} {k : Key} {v : V} {w : D} (p : Rp K R v w) : ∀ {vs : List (Key × V)} {ws : List (Key × D)}, RDk K R vs ws → RDk K R (vs.map (fun kv => if kv.1 = k then (kv.1, v) else kv)) (ws.map (fun kv => if kv.1 = k then (kv.1, w) else kv))
  | _, _, .nil => .nil
  | _, _, .cons (k := k') q r => by
    rw [List.map_cons, List.map_cons]
    by_cases h : k' = k
    · rw [if_pos h, if_pos h]; exact .cons p (RDk.mapPut p r)
    · rw [if_neg h, if_neg h]; exact .cons q (RDk.mapPut p r)
theorem RDk.append {K : PySem.W.Frag} : ∀ {vs us : List (Key × V)} {ws zs : List (Key × D)}, RDk K R vs ws → RDk K R us zs → RDk K R (vs ++ us) (ws ++ zs)
  | _, _, _, _, .nil, s => s
  | _, _, _, _, .cons h r, s => .cons h (RDk.append r s)
theorem RDk.put {K : PySem.W.Frag} {k : Key} {v : V} {w : D} (p : Rp K R v w) {vs : List (Key × V)} {ws : List (Key × D)} (r : RDk K R vs ws) : RDk K R (putK vs k v) (putG ws k w) := by
  unfold putK putG
  rw [r.any (k := k)]
  by_cases h : (ws.any fun kv => decide (kv.1 = k)) = true
  · rw [if_pos h, if_pos h]; exact r.mapPut p
  · rw [if_neg h, if_neg h]; exact r.append (.cons p .nil)
theorem RDk.keys {K : PySem.W.Frag} : ∀ {vs : List (Key × V)} {ws : List (Key × D)}, RDk K R vs ws → vs.map (·.1) = ws.map (·.1)
  | _, _, .nil => rfl
  | _, _, .cons _ r => by rw [List.map_cons, List.map_cons, RDk.keys r]
theorem putK_len {kvs : List (Key × V)} {k : Key} {v : V} : (putK kvs k v).length ≤ kvs.length + 1 := by
  unfold putK
  split
  · rw [List.length_map]; omega
  · rw [List.length_append]; exact Nat.le_refl _
theorem new_dct {Q : V → Hp → Prop} {vs : List (Key × V)} {ws : List (Key × D)} (S : StOk kx.K Fr R as δ C σ H) (h : Post kx (PRes kx.K) Fr R as δ σ Q (opt (some (.new (.dct ws))) δ C)) (hr : RDk kx.K R vs ws) (hl : vs.length ≤ sizeLine) :
    ∀ p, H p = none → Q (.ref p) (upd H p (.dK vs)) := fun p hp => by
  obtain ⟨S1, hn, hm, hf, ho⟩ := S.laid (o := .dK vs) hp
  exact h R as _ _ (Grow.refl R as) S1 ⟨p, rfl, hn, hm, hf, _, ho, hr, hl⟩
def fDct0 : EF Res := ret (.new (.dct []))
theorem de_dct0 : DE X kx (.Dict [] [] pos) fDct0 := weakE pe_dnewK fun σ H Q ⟨Fr, R, as, δ, C, S, h⟩ => new_dct S h .nil (Nat.zero_le _)

/-! ### dict comprehensions -/
def compDC (own : List Nat) (t : TF) (cond : EF Bool) (key val : EF D) : List D → Slots → Store → List (Key × D) → Option (List (Key × D) × Store)
  | [], _, C, acc => some (acc, C)
  | d :: ds, δ, C, acc => match t d (wipeD δ own) with
    | none => none
    | some δ1 => match cond δ1 C with
      | some (.ok false C1) => compDC own t cond key val ds δ C1 acc
      | some (.ok true C1) => (match key δ1 C1 with
        | some (.ok y C2) => (match asK y with
          | none => none
          | some k => (match val δ1 C2 with
            | some (.ok z C3) => compDC own t cond key val ds δ C3 (putG acc k z)
            | _ => none))
        | _ => none)
      | _ => none
def fDC (fi : EF (List D)) (own : List Nat) (t : TF) (cond : EF Bool) (key val : EF D) : EF Res := bnd fi fun ds δ C => match compDC own t cond key val ds δ C [] with
  | some (acc, C') => some (.ok (.new (.dct acc)) C')
  | none => none
/-- a comprehension of a dict over a walk -/
theorem dc_it {J : It} {n : Nat} {G : Hp → Prop} {Y : Nat → Hp → V → Hp → Prop} (w : Walk J n G Y) {g : TG} {tt : TT} {tk tv : TE} {vs : List Nat} {σ : L2.St} {H1 : Hp} {D : Addr} {Qd : Hp → Prop} (Pv : Nat → Hp → Prop) (h0 : Pv 0 (upd H1 D (.dK []))) (hG : ∀ i H, i ≤ n → Pv i H → G H)
    (hs : ∀ i x H H', i < n → Pv i H → Y i H x H' → g x (wipe σ vs) H' fun σ2 H2 => wipe σ2 vs = wipe σ vs ∧ tt σ2 H2 fun b H3 =>
      if b = true then tk σ2 H3 fun y H4 => tv σ2 H4 fun z H5 => ∃ kvs k, y = kV k ∧ H5 D = some (.dK kvs) ∧ kvs.length < sizeLine ∧ Pv (i + 1) (upd H5 D (.dK (putK kvs k z))) else Pv (i + 1) H3) (hd : ∀ H, Pv n H → Qd H) :
    ∃ W : Nat → Nat → Hp → Prop, (∃ m, W 0 m (upd H1 D (.dK []))) ∧ ∀ i m H, W i m H →
      (J.stop i H ∧ Qd H) ∨ (J.go i H ∧ ∃ Nx : Hp → Prop, (∀ H', Nx H' → ∃ m', m' < m ∧ W (i + 1) m' H') ∧ ∀ x H', J.yld i H x H' → g x (wipe σ vs) H' fun σ2 H2 => wipe σ2 vs = wipe σ vs ∧ tt σ2 H2 fun b H3 =>
        if b = true then tk σ2 H3 fun y H4 => tv σ2 H4 fun z H5 => ∃ kvs k, y = kV k ∧ H5 D = some (.dK kvs) ∧ kvs.length < sizeLine ∧ Nx (upd H5 D (.dK (putK kvs k z))) else Nx H3) := by
  refine ⟨fun i m H => m = n - i ∧ i ≤ n ∧ Pv i H, ⟨n, by simp, Nat.zero_le _, h0⟩, ?_⟩
  rintro i m H ⟨rfl, hi, p⟩
  have q := hG i H hi p
  by_cases hlt : i < n
  · refine .inr ⟨w.goes i H hlt q, Pv (i + 1), fun H' p' => ⟨n - (i + 1), by omega, rfl, hlt, p'⟩, fun x H' y => hs i x H H' hlt p (w.yields i H x H' hlt q y)⟩
  · have e : i = n := by omega
    subst e
    exact .inl ⟨w.stops H q, hd H p⟩
theorem de_dc {kxp vx tg iter : Expr} {ifs : List Expr} {scope : Scope} {own : List (Str × Nat)} {fi : EF (List D)} {t : TF} {ix : List Nat} {cond : EF Bool} {fk fe : EF D} (hc : X.calm = true) (hN : X.N.Nodup) (hi : DI X kx tg iter fi) (ok : BlkOk X.N X.env.scope scope own)
    (hix : ∀ i ∈ ix, i ∈ own.map (·.2)) (hg : Blk X scope fun Y => DG Y kx.nox tg ix t) (ht : Blk X scope fun Y => PTs Y ifs (Lft kx.nox PB cond)) (hk : Blk X scope fun Y => DD Y kx.nox kxp fk) (he : Blk X scope fun Y => DD Y kx.nox vx fe) (hs : ∀ x, foldedSetIterable iter X.env x = pure x) :
    DE X kx (.DictComp kxp vx [⟨tg, iter, ifs, 0⟩] scope pos) (fDC fi (own.map (·.2)) t cond fk fe) :=
  weakE (pe_dc hc hN hi ok hg ht hk he hs) fun σ H Q ⟨Fr, R, as, δ, C, S, h⟩ => lft_bnd S h fun R1 as1 C1 J ds H1 g1 S1 pw h1 => fun D hD => by
    obtain ⟨⟨G, Y, w, hG, hY⟩, hl⟩ := pw
    obtain ⟨S2, hn, hm, hf, ho⟩ := S1.laid (o := .dK []) hD
    have h1 : Post kx (PRes kx.K) Fr R1 as1 δ σ Q (match compDC (own.map (·.2)) t cond fk fe ds δ C1 [] with
      | some (acc, C') => some (.ok (.new (.dct acc)) C')
      | none => none) := h1
    generalize own.map (·.2) = vs at *
    cases ec : compDC vs t cond fk fe ds δ C1 [] with
    | none => rw [ec] at h1; exact h1.elim
    | some r =>
      obtain ⟨acc, C'⟩ := r
      rw [ec] at h1
      have h1 : Post kx (PRes kx.K) Fr R1 as1 δ σ Q (some (.ok (.new (.dct acc)) C')) := h1
      refine dc_it w (fun i H => ∃ R as C accv accd, Grow R1 as1 R as ∧ StOk kx.K (upd Fr D (.dK accv)) R as (wipeD δ vs) C (L2.wipe σ vs) H ∧ RDk kx.K R accv accd ∧ accv.length ≤ i ∧ compDC vs t cond fk fe (ds.drop i) δ C accd = some (acc, C'))
        ⟨R1, as1, C1, [], [], Grow.refl _ _, ?_, .nil, Nat.le_refl _, ec⟩ ?_ ?_ ?_
      · have S3 : StOk kx.K (upd Fr D (.dK [])) R1 as1 δ C1 σ (upd H1 D (.dK [])) := S1.grow (Grow.refl _ _) (S2.toStoreOk.frame hn hm ho)
        exact S3.wipe vs
      · rintro i H _ ⟨R, as, C, accv, accd, g, S, _⟩
        exact hG H (g.1.trans S.sub)
      · rintro i x H H' hi ⟨R, as, C, accv, accd, g, S, ra, hla, q⟩ y
        obtain ⟨d, ed⟩ : ∃ d, ds[i]? = some d := ⟨ds[i], by simp [hi]⟩
        obtain ⟨R', s1, s2, s3, s4, px⟩ := hY i H x H' R d g.1 S.sub y ed
        have S' := S.yield s1 s2 s3 s4
        have g' : Grow R as R' as := ⟨s1, [], by simp⟩
        rw [drop_cons ed] at q
        unfold compDC at q
        cases et : t d (wipeD δ vs) with
        | none => simp only [et] at q; cases q
        | some δ1 =>
          simp only [et] at q
          refine ⟨upd Fr D (.dK accv), R', as, wipeD δ vs, C, d, δ1, S', px, et, fun σ2 S2 wp => ⟨(wp vs hix).trans (wipe_wipe σ vs), ⟨upd Fr D (.dK accv), R', as, δ1, C, S2, ?_⟩⟩⟩
          cases eb : cond δ1 C with
          | none => simp only [eb] at q; cases q
          | some o =>
            cases o with
            | exc e δ' C2 => simp only [eb] at q; cases q
            | ok b C2 =>
              intro R3 as3 b' H3 g3 S3 pb
              cases pb
              cases b with
              | false =>
                simp only [eb] at q
                rw [if_neg Bool.false_ne_true]
                exact ⟨R3, as3, C2, accv, accd, (g.trans g').trans g3, S'.grow g3 S3.toStoreOk, RDk.mono (g'.trans g3).1 ra, Nat.le_succ_of_le hla, q⟩
              | true =>
                simp only [eb] at q
                rw [if_pos rfl]
                refine ⟨upd Fr D (.dK accv), R3, as3, δ1, C2, S3, ?_⟩
                cases ek : fk δ1 C2 with
                | none => simp only [ek] at q; cases q
                | some o =>
                  cases o with
                  | exc e δ' C3 => simp only [ek] at q; cases q
                  | ok y C3 =>
                    simp only [ek] at q
                    cases eky : asK y with
                    | none => simp only [eky] at q; cases q
                    | some k =>
                      simp only [eky] at q
                      intro R4 as4 u H4 g4 S4 pu
                      refine ⟨upd Fr D (.dK accv), R4, as4, δ1, C3, S4, ?_⟩
                      cases ev : fe δ1 C3 with
                      | none => simp only [ev] at q; cases q
                      | some o =>
                        cases o with
                        | exc e δ' C4 => simp only [ev] at q; cases q
                        | ok z C4 =>
                          simp only [ev] at q
                          intro R5 as5 v H5 g5 S5 pz
                          obtain ⟨f1, f2, f3⟩ := S5.fr D _ upd_same
                          have G4 := (g.trans g').trans (g3.trans (g4.trans g5))
                          refine ⟨accv, k, asK_ok pu eky, f1, by omega, R5, as5, C4, putK accv k v, putG accd k z, G4, ?_, RDk.put pz (RDk.mono (g'.trans (g3.trans (g4.trans g5))).1 ra), ?_, q⟩
                          · have S6 : StOk kx.K (upd Fr D (.dK accv)) R5 as5 (wipeD δ vs) C4 (L2.wipe σ vs) H5 := S'.grow (g3.trans (g4.trans g5)) S5.toStoreOk
                            exact S6.grow (Grow.refl _ _) S6.toStoreOk.reframe
                          · exact Nat.le_trans putK_len (by omega)
      · rintro H ⟨R, as, C, accv, accd, g, S, ra, hla, q⟩
        rw [List.drop_length] at q
        cases q
        obtain ⟨f1, f2, f3⟩ := S.fr D _ upd_same
        exact h1 R as _ H g (S1.grow g (S.toStoreOk.unframe hf)) ⟨D, rfl, f2, f3, hf, _, f1, ra, by omega⟩

/-! ### dict(pairs), sorted -/
def asPair : D → Option (Key × D)
  | .tup [k, v] => (asK k).map fun k => (k, v)
  | _ => none
def asPairs : List D → Option (List (Key × D))
  | [] => some []
  | d :: ds => match asPair d, asPairs ds with
    | some p, some ps => some (p :: ps)
    | _, _ => none
def mergeG (kvs : List (Key × D)) (more : List (Key × D)) : List (Key × D) := more.foldl (fun acc kv => putG acc kv.1 kv.2) kvs
def dictF : Vw → Option Res
  | .lst ds => (asPairs ds).map fun ps => .new (.dct (mergeG [] ps))
  | _ => none
theorem asPair_ok {K : PySem.W.Frag} {R : Hp} {H : Hp} (s : Sub R H) {d : D} {v : V} {q : Key × D} (p : Rp K R v d) (e : asPair d = some q) : ∃ (a : Addr) (z : V), v = .ref a ∧ SqT K H a [kV q.1, z] ∧ Rp K R z q.2 := by
  cases p with
  | @tup a us es ha hl ru =>
    cases ru with
    | nil => cases e
    | cons p1 r1 =>
      cases r1 with
      | nil => cases e
      | cons p2 r2 =>
        cases r2 with
        | cons _ _ => cases e
        | nil =>
          rename_i u1 k1 u2 k2
          have e : (asK k1).map (fun k => (k, k2)) = some q := e
          cases e3 : asK k1 with
          | none => rw [e3] at e; cases e
          | some k' =>
            rw [e3] at e
            cases e
            have ek := asK_ok p1 e3
            subst ek
            exact ⟨a, u2, rfl, s.sqT ha, p2⟩
  | _ => cases e
theorem asPairs_ok {K : PySem.W.Frag} {R : Hp} {H : Hp} (s : Sub R H) {ds : List D} : ∀ {vs : List V} {ps : List (Key × D)}, RpL K R vs ds → asPairs ds = some ps →
    ∃ (as : List Addr) (kvs : List (Key × V)), vs = as.map V.ref ∧ Paired (fun p kv => SqT K H p [kV kv.1, kv.2]) as kvs ∧ Paired (fun (a : Key × V) (b : Key × D) => a.1 = b.1 ∧ Rp K R a.2 b.2) kvs ps := by
  induction ds with
  | nil =>
    intro vs ps r e
    cases r
    cases e
    exact ⟨[], [], rfl, .nil, .nil⟩
  | cons d ds ih =>
    intro vs ps r e
    cases r with
    | cons p r =>
      unfold asPairs at e
      cases e1 : asPair d with
      | none => simp only [e1] at e; cases e
      | some q =>
        cases e2 : asPairs ds with
        | none => simp only [e1, e2] at e; cases e
        | some qs =>
          simp only [e1, e2] at e
          cases e
          obtain ⟨as, kvs, h1, h2, h3⟩ := ih r e2
          obtain ⟨a, z, ev, q1, q2⟩ := asPair_ok s p e1
          exact ⟨a :: as, (q.1, z) :: kvs, by rw [h1, ev]; rfl, .cons q1 h2, .cons ⟨rfl, q2⟩ h3⟩
theorem merge_ok {K : PySem.W.Frag} {kvs : List (Key × V)} {ps : List (Key × D)} (h : Paired (fun (a : Key × V) (b : Key × D) => a.1 = b.1 ∧ Rp K R a.2 b.2) kvs ps) : ∀ {acc : List (Key × V)} {accd : List (Key × D)}, RDk K R acc accd → RDk K R (mergeK acc kvs) (mergeG accd ps) := by
  induction h with
  | nil => intro _ _ r; exact r
  | @cons a b l1 l2 h t ih =>
    intro acc accd r
    obtain ⟨k, v⟩ := a
    obtain ⟨k', d⟩ := b
    obtain ⟨e, p⟩ := h
    cases e
    exact ih (r.put p)
theorem merge_len : ∀ (more acc : List (Key × V)), (mergeK acc more).length ≤ acc.length + more.length
  | [], acc => Nat.le_refl _
  | p :: more, acc => by
    have h := merge_len more (putK acc p.1 p.2)
    have h2 := putK_len (kvs := acc) (k := p.1) (v := p.2)
    show (mergeK (putK acc p.1 p.2) more).length ≤ _
    simp only [List.length_cons]
    omega
theorem Paired.length' {α β : Type} {F : α → β → Prop} : ∀ {l₁ : List α} {l₂ : List β}, Paired F l₁ l₂ → l₁.length = l₂.length
  | _, _, .nil => rfl
  | _, _, .cons _ t => congrArg Nat.succ (Paired.length' t)
theorem cr_dictF (hK : kx.K = X.K) (hc : X.calm = true) : CallR X (.type "dict") (L1R kx dictF) := by
  intro pins s σ0 H xs us Q I r h
  obtain ⟨Fr, R, as, δ, C, σ', v, vw, rfl, S, ok, post⟩ := h
  obtain ⟨K, XR, Wx⟩ := kx
  cases hK
  cases vw <;> try exact post.elim
  rename_i ws
  obtain ⟨a, vs, ev, q1, q2, q3⟩ := ok; subst ev
  have post : Post _ _ Fr R as δ σ' Q (opt ((asPairs ws).map fun ps => Res.new (.dct (mergeG [] ps))) δ C) := post
  cases qp : asPairs ws with
  | none => rw [qp] at post; exact post.elim
  | some ps =>
      rw [qp] at post
      simp only [Option.map_some] at post
      obtain ⟨bs, kvs, h1, h2, h3⟩ := asPairs_ok (H := H) S.sub q2 qp
      subst h1
      refine call_dictP hc pins s σ0 H _ us Q I r ⟨a, bs, kvs, rfl, SqL.of q1, h2, new_dct S post (merge_ok h3 .nil) ?_⟩
      have e1 := merge_len kvs []
      have e2 := Paired.length' h2
      rw [List.length_map] at q3
      simp only [List.length_nil] at e1
      omega

/-! texts by their codes -/
def leS (a b : Str) : Bool := !ltCps b.cps.toList a.cps.toList
def sortS (xs : List Str) : List Str := xs.mergeSort leS
theorem lt_irr : ∀ a : List Nat, ltCps a a = false
  | [] => rfl
  | a :: as => by unfold ltCps; simp [lt_irr as]
theorem lt_asym : ∀ {a b : List Nat}, ltCps a b = false → ltCps b a = false → a = b
  | [], [], _, _ => rfl
  | [], _ :: _, h, _ => by cases h
  | _ :: _, [], _, h => by cases h
  | a :: as, b :: bs, h1, h2 => by
    unfold ltCps at h1 h2
    simp only [Bool.or_eq_false_iff, decide_eq_false_iff_not, Bool.and_eq_false_iff, beq_eq_false_iff_ne] at h1 h2
    have e : a = b := by omega
    subst e
    have r1 : ltCps as bs = false := by rcases h1.2 with h | h; exact absurd rfl h; exact h
    have r2 : ltCps bs as = false := by rcases h2.2 with h | h; exact absurd rfl h; exact h
    rw [lt_asym r1 r2]
theorem lt_trans' : ∀ {a b c : List Nat}, ltCps b a = false → ltCps c b = false → ltCps c a = false
  | _, _, [], h1, h2 => by
    rename_i a b
    cases a with
    | nil => rfl
    | cons x xs =>
      cases b with
      | nil => cases h1
      | cons y ys => cases h2
  | [], b, c :: cs, h1, h2 => rfl
  | a :: as, [], c :: cs, h1, h2 => by cases h1
  | a :: as, b :: bs, c :: cs, h1, h2 => by
    unfold ltCps at h1 h2 ⊢
    simp only [Bool.or_eq_false_iff, decide_eq_false_iff_not, Bool.and_eq_false_iff, beq_eq_false_iff_ne] at h1 h2 ⊢
    refine ⟨by omega, ?_⟩
    by_cases e : c = a
    · have e1 : b = a := by omega
      have e2 : c = b := by omega
      right
      have r1 : ltCps bs as = false := by rcases h1.2 with h | h; exact absurd e1 h; exact h
      have r2 : ltCps cs bs = false := by rcases h2.2 with h | h; exact absurd e2 h; exact h
      exact lt_trans' r1 r2
    · exact .inl e
theorem lt_tot : ∀ {a b : List Nat}, ltCps a b = true → ltCps b a = false
  | [], [], h => by cases h
  | [], _ :: _, _ => rfl
  | _ :: _, [], h => by cases h
  | a :: as, b :: bs, h => by
    unfold ltCps at h ⊢
    simp only [Bool.or_eq_true, decide_eq_true_eq, Bool.and_eq_true, beq_iff_eq] at h
    simp only [Bool.or_eq_false_iff, decide_eq_false_iff_not, Bool.and_eq_false_iff, beq_eq_false_iff_ne]
    rcases h with h | ⟨h, h2⟩
    · exact ⟨by omega, .inl (by omega)⟩
    · exact ⟨by omega, .inr (lt_tot h2)⟩
theorem leS_trans (a b c : Str) (h1 : leS a b = true) (h2 : leS b c = true) : leS a c = true := by
  unfold leS at *
  simp only [Bool.not_eq_true'] at *
  exact lt_trans' h1 h2
theorem leS_total (a b : Str) : (leS a b || leS b a) = true := by
  unfold leS
  cases h : ltCps b.cps.toList a.cps.toList with
  | false => rfl
  | true => rw [lt_tot h]; rfl
theorem leS_anti {a b : Str} (h1 : leS a b = true) (h2 : leS b a = true) : a = b := by
  unfold leS at *
  simp only [Bool.not_eq_true'] at *
  have e := lt_asym h2 h1
  obtain ⟨⟨a⟩⟩ := a
  obtain ⟨⟨b⟩⟩ := b
  cases e
  rfl
theorem rising_all : ∀ {xs : List Str} {p : Str}, risingS p xs = true → (p :: xs).Pairwise fun a b => leS a b = true
  | [], p, _ => by simp
  | x :: xs, p, h => by
    have h : (leS p x && risingS x xs) = true := h
    rw [Bool.and_eq_true] at h
    have ih := rising_all h.2
    refine List.Pairwise.cons (fun y hy => ?_) ih
    rcases List.mem_cons.mp hy with e | hy
    · rw [e]; exact h.1
    · exact leS_trans _ _ _ h.1 (List.rel_of_pairwise_cons ih hy)
theorem sorted_all : ∀ {xs : List Str}, sortedS xs = true → xs.Pairwise fun a b => leS a b = true
  | [], _ => by simp
  | x :: xs, h => rising_all h
theorem sortS_is {ys xs : List Str} (h : ys.Perm xs) (s : sortedS ys = true) : ys = sortS xs :=
  List.Perm.eq_of_pairwise (le := fun a b => leS a b = true) (fun a b _ _ h1 h2 => leS_anti h1 h2) (sorted_all s) (List.pairwise_mergeSort leS_trans leS_total xs) (h.trans (List.mergeSort_perm xs leS).symm)
theorem sortS_len (xs : List Str) : (sortS xs).length = xs.length := (List.mergeSort_perm xs leS).length_eq
def asSs : List D → Option (List Str)
  | [] => some []
  | .str b :: ds => (asSs ds).map (b :: ·)
  | _ :: _ => none
theorem asSs_ok : ∀ {ds : List D} {bs : List Str}, asSs ds = some bs → ds = bs.map D.str
  | [], bs, h => by cases h; rfl
  | .str b :: ds, bs, h => by
    have h : (asSs ds).map (b :: ·) = some bs := h
    cases e : asSs ds with
    | none => rw [e] at h; cases h
    | some cs => rw [e] at h; cases h; rw [asSs_ok e]; rfl
  | .non :: _, _, h => by cases h
  | .int _ :: _, _, h => by cases h
  | .bl _ :: _, _, h => by cases h
  | .lst _ :: _, _, h => by cases h
  | .tup _ :: _, _, h => by cases h
  | .scr _ :: _, _, h => by cases h
def keyS : Key → D
  | .inl i => .int i
  | .inr x => .str x
def sortF : Vw → Option Res
  | .lst ds => (asSs ds).bind fun xs => if xs.length < 64 ∧ xs.all (fun x => decide (x.length ≤ sizeLine)) = true then some (.new (.lst ((sortS xs).map D.str))) else none
  | .dct kvs => (asSs (kvs.map fun kv => keyS kv.1)).bind fun xs => if xs.length < 64 ∧ xs.all (fun x => decide (x.length ≤ sizeLine)) = true then some (.new (.lst ((sortS xs).map D.str))) else none
  | _ => none
theorem keys_strs : ∀ {kvs : List (Key × D)} {xs : List Str}, (kvs.map fun kv => keyS kv.1) = xs.map D.str → kvs.map (·.1) = xs.map Sum.inr
  | [], [], _ => rfl
  | [], _ :: _, e => by cases e
  | _ :: _, [], e => by cases e
  | (k, w) :: kvs, x :: xs, e => by
    rw [List.map_cons, List.map_cons] at e
    injection e with e1 e2
    rw [List.map_cons, List.map_cons, keys_strs e2]
    cases k with
    | inl i => cases e1
    | inr y => cases e1; rfl
theorem strs_rws {K : PySem.W.Frag} : ∀ {xs : List Str}, (∀ x ∈ xs, x.length ≤ sizeLine) → RpL K R (xs.map V.str) (xs.map D.str)
  | [], _ => .nil
  | x :: xs, h => .cons (.str x (h x (by simp))) (strs_rws fun y hy => h y (by simp [hy]))
theorem sort_small {xs : List Str} (h : xs.all (fun x => decide (x.length ≤ sizeLine)) = true) : ∀ x ∈ sortS xs, x.length ≤ sizeLine := fun x hx =>
  of_decide_eq_true (List.all_eq_true.mp h x ((List.mergeSort_perm xs leS).mem_iff.mp hx))
theorem cr_sortF (hK : kx.K = X.K) (hc : X.calm = true) : CallR X (.builtin "sorted") (L1R kx sortF) := by
  intro pins s σ0 H xs us Q I r h
  obtain ⟨Fr, R, as, δ, C, σ', v, vw, rfl, S, ok, post⟩ := h
  obtain ⟨K, XR, Wx⟩ := kx
  cases hK
  have hz : sizeLine = 16777216 := rfl
  cases vw <;> try exact post.elim
  · rename_i ws
    obtain ⟨a, vs, ev, q1, q2, q3⟩ := ok; subst ev
    unfold sortF at post
    cases qs : asSs ws with
      | none => simp only [qs] at post; exact post.elim
      | some xs =>
        simp only [qs, Option.bind_some] at post
        have rl := q2
        rw [asSs_ok qs] at rl
        have e := rl.strs
        subst e
        by_cases hl : xs.length < 64 ∧ xs.all (fun x => decide (x.length ≤ sizeLine)) = true
        · rw [if_pos hl] at post
          refine cr_sortedS pins s σ0 H _ us Q I r ⟨a, xs, rfl, SqL.of q1, hl.1, fun ys p hp hs hn => ?_⟩
          rw [sortS_is hp hs]
          exact new_lst S post (strs_rws (sort_small hl.2)) (by rw [List.length_map, sortS_len]; omega) p hn
        · rw [if_neg hl] at post; exact post.elim
  · rename_i kvs
    obtain ⟨a, vs, ev, q1, q2, q3⟩ := ok; subst ev
    unfold sortF at post
    cases qs : asSs (kvs.map fun kv => keyS kv.1) with
    | none => simp only [qs] at post; exact post.elim
    | some xs =>
      simp only [qs, Option.bind_some] at post
      by_cases hl : xs.length < 64 ∧ xs.all (fun x => decide (x.length ≤ sizeLine)) = true
      · rw [if_pos hl] at post
        have ek : vs.map (·.1) = xs.map Sum.inr := by
          rw [q2.keys]
          exact keys_strs (asSs_ok qs)
        refine call_sortedD hc pins s σ0 H _ us Q I r ⟨a, vs, xs, rfl, .inl q1, ek, hl.1, fun ys p hp hs hn => ?_⟩
        rw [sortS_is hp hs]
        exact new_lst S post (strs_rws (sort_small hl.2)) (by rw [List.length_map, sortS_len]; omega) p hn
      · rw [if_neg hl] at post; exact post.elim

/-! ### items stored: a[i] = e, a a live list -/
def fSetIx (fe : EF D) (fo : EF Res) (fi : EF D) : SF := bnd fe fun d => bnd (bnd fo resF) fun w => bnd fi fun y => bnd (cellL w) fun ws => bnd (opt (asI y)) fun i => bnd (opt (ixN ws.length i)) fun j => bnd (putL w (.lst (ws.set j d)) (rd .non)) fun _ δ C => some (.ok (.nx δ) C)
theorem ds_setIx {o i : Expr} {tpos : Pos} {fe fi : EF D} {fo : EF Res} (he : DD X kx e fe) (ho : DE X kx o fo) (hi : DD X kx i fi) (ha : ∀ v, assign (.Subscript o i tpos) X.env v = (do
      let ov ← holding [v] (eval o X.env)
      let iv ← holding [v, ov] (eval i X.env)
      standAt tpos
      holding [v, ov, iv] (setItem ov iv v)
      release [v, ov, iv] [])) (hs : swapsWithSole [.Subscript o i tpos] e pos.line X.env = pure false) (hw : swappedStores [.Subscript o i tpos] e X.env = pure none) : DS X kx (.Assign [.Subscript o i tpos] e pos) (fSetIx fe fo fi) :=
  weakS (ps_asg he (pg_sub (df_of ho) hi set_list ha) hs hw) fun Dn σ H ⟨Fr, R, as, δ, C, S, h⟩ =>
    lfs_bnd S h fun R1 as1 C1 v d H1 g1 S1 pd h1 => lfs_bnd S1 h1 fun R2 as2 C2 u w H2 g2 S2 pw h2 => lfs_bnd S2 h2 fun R3 as3 C3 z y H3 g3 S3 py h3 => by
      have pw : RW kx.K R3 as3 u w := RW.mono g3 pw
      have pd : Rp kx.K R3 v d := Rp.mono (g2.trans g3).1 pd
      cases w with
      | d x => exact h3.elim
      | c k =>
        obtain ⟨a, ha, ev⟩ := pw
        subst ev
        unfold bnd cellL at h3
        cases q : C3[k]? with
        | none => simp only [q] at h3; exact h3.elim
        | some c =>
          cases c with
          | lst ws =>
            simp only [q] at h3
            obtain ⟨hn, o, ho, hc⟩ := S3.cell k a _ ha q
            cases o with
            | lst vs =>
              cases py <;> try exact h3.elim
              rename_i n
              cases en : ixN ws.length n with
              | none => simp only [asI, opt, en] at h3; exact h3.elim
              | some j =>
                simp only [asI, opt, en, putL] at h3
                have el := hc.1.length
                have S4 := S3.toStoreOk.write (c := .lst (ws.set j d)) (o := .lst (vs.set j v)) ha q hn ⟨hc.1.set pd j, by rw [List.length_set]; exact hc.2⟩
                exact ⟨a, vs, n, j, rfl, rfl, ho, by rw [el]; exact en, h3 R3 as3 σ _ (Grow.refl _ _) (S3.grow (Grow.refl _ _) S4)⟩
            | _ => exact hc.elim
          | _ => simp only [q] at h3; exact h3.elim
end
end FL

/-! part FLl -/
set_option maxRecDepth 100000
set_option maxHeartbeats 4000007
/-! FL, part l: a def by its body. -/
namespace FL
open L2 PyProof.Rows PySem.Spec PySem

def fin (n : Nat) (r : Res) (C : Store) : Option (Out Res) := match r with
  | .w (.d x) => some (.ok (rd x) (C.take n))
  | .w (.c i) => if i < n then some (.ok (.w (.c i)) (C.take n)) else (match C[i]? with
    | some (.fro x) => some (.ok (rd x) (C.take n))
    | some c => some (.ok (.new c) (C.take n))
    | none => none)
  | .new c => some (.ok (.new c) (C.take n))
def finish (n : Nat) : Option (Out Fl) → Option (Out Res)
  | none => none
  | some (.exc e _ C) => some (.exc e [] (C.take n))
  | some (.ok (.rt r) C) => fin n r C
  | some (.ok (.nx _) C) => some (.ok (rd .non) (C.take n))
  | some (.ok _ _) => none
def slots0 (N : Nat) (ws : List W) : Slots := ws.map some ++ List.replicate (N - ws.length) none
/-- the def's function: its parameters' number, its slots, its body -/
def mkFn (ar N : Nat) (body : SF) : Fn := ⟨ar, fun ws C => finish C.length (body (slots0 N ws) C)⟩
section
variable {K : PySem.W.Frag} {Fr R R' : Hp} {as : List Addr} {C C' : Store} {H H' : Hp} {XR : Hp → Hp → Value → Option Addr → Exn → Prop} {Q : VK} {E : XK}
theorem StoreOk.cut (S : StoreOk K Fr R' (as ++ t) C' H') : StoreOk K Fr R' as (C'.take as.length) H' := by
  have hl := S.len
  rw [List.length_append] at hl
  refine ⟨S.sub, by rw [List.length_take]; omega, (List.nodup_append.mp S.nd).1, fun i a c ha hc => ?_, fun a h => S.there a (List.mem_append_left _ h), fun a o e => let ⟨q1, q2, q3⟩ := S.fr a o e; ⟨q1, q2, fun z => q3 (List.mem_append_left _ z)⟩⟩
  have hi := (List.getElem?_eq_some_iff.mp ha).1
  rw [List.getElem?_take_of_lt hi] at hc
  exact S.cell i a c (by rw [List.getElem?_append_left hi]; exact ha) hc
theorem fin_ok (SC : as.length = C.length) {r : Res} {v : V} (h : PostF K XR Fr R as Q E (fin C.length r C')) (g : Grow R as R' as') (S : StoreOk K Fr R' as' C' H') (p : PRes K Fr R' as' H' v r) : Q v H' := by
  obtain ⟨g1, t, rfl⟩ := g
  have S2 := S.cut
  rw [SC] at S2
  have g2 : Grow R as R' as := ⟨g1, [], by simp⟩
  match r, p, h with
  | .w (.d x), p, h => exact h R' as v H' g2 S2 p
  | .new c, ⟨a, ev, hn, hm, hf, o, ho, hc⟩, h => exact h R' as v H' g2 S2 ⟨a, ev, hn, fun z => hm (List.mem_append_left _ z), hf, o, ho, hc⟩
  | .w (.c i), ⟨a, ha, ev⟩, h =>
    unfold fin at h
    by_cases hi : i < C.length
    · simp only [if_pos hi] at h
      exact h R' as v H' g2 S2 ⟨a, by rw [List.getElem?_append_left (by rw [SC]; exact hi)] at ha; exact ha, ev⟩
    · simp only [if_neg hi] at h
      cases q : C'[i]? with
      | none => simp only [q] at h; exact h.elim
      | some c =>
        have z := S.cell i a c ha q
        have hm : a ∉ as := fun z => by
          have hd := (List.nodup_append.mp S.nd).2.2
          rw [List.getElem?_append_right (by rw [SC]; omega)] at ha
          exact hd a z a (List.mem_of_getElem? ha) rfl
        have hf : Fr a = none := by
          cases qf : Fr a with
          | none => rfl
          | some u => exact absurd (List.mem_of_getElem? ha) (S.fr a u qf).2.2
        subst ev
        cases c with
        | fro x => simp only [q] at h; exact h R' as _ H' g2 S2 z
        | lst ds => simp only [q] at h; obtain ⟨hn, o, ho, hc⟩ := z; exact h R' as _ H' g2 S2 ⟨a, rfl, hn, hm, hf, o, ho, hc⟩
        | dct ds => simp only [q] at h; obtain ⟨hn, o, ho, hc⟩ := z; exact h R' as _ H' g2 S2 ⟨a, rfl, hn, hm, hf, o, ho, hc⟩
theorem start_ok {vs : List V} {ws : List W} (S : StoreOk K Fr R as C H) (r : RWs K R as vs ws) (N : List Str) : StOk K Fr R as (slots0 N.length ws) C (L2.start N vs) H := by
  refine ⟨S, ?_, fun i w h => ?_⟩
  · unfold slots0 L2.start
    simp [r.length]
  · unfold slots0 at h
    unfold L2.start
    by_cases hi : i < ws.length
    · rw [List.getElem?_append_left (by simpa using hi), List.getElem?_map] at h
      cases e : ws[i]? with
      | none => rw [e] at h; cases h
      | some w' =>
        rw [e] at h
        cases h
        obtain ⟨v, ev, p⟩ := r.get e
        exact ⟨v, by rw [List.getElem?_append_left (by simpa [r.length] using hi), List.getElem?_map, ev]; rfl, p⟩
    · rw [List.getElem?_append_right (by simpa using hi), List.getElem?_replicate] at h
      split at h <;> cases h
/-- the wish of a def's body -/
def kxOf (K : PySem.W.Frag) (XR : Hp → Hp → Value → Option Addr → Exn → Prop) (E : XK) : KX := ⟨K, XR, fun cls d _ H => E cls d H⟩
theorem fn_ok {P : Program} {w : World} {mg : Str → Option Value} {base : Heap} {k : Nat} {f : Addr} {fd : FuncData} {name qual : Str} {params : Arguments} {body : List Stmt} {scope : Scope} {N ps : List Str} {s : SF}
    (F : FunD K name qual params body scope [] [] f fd) (S : FnScope N ps scope)
    (hb : ∀ (cdv : Value) (A : Around) (outer : List Env) (s0 : Shared) (H : Hp) (E : XK), Room k (A.deeper (envOfC qual scope s0.heap.objs.size f cdv)) →
      DSs (cxOf (L2.CX P w) P w K mg base N qual scope f cdv A outer s0 H E) (kxOf K XR E) body s) :
    FnOk P w K mg base (L2.CX P w) (k + 1) f fd ps (SpF K XR (mkFn ps.length N.length s)) := by
  refine F.ok S (fun vs H Q E h => h.1) fun cdv A outer s0 H vs Q E hr h => ?_
  obtain ⟨hl, Fr, R, as, C, ws, St, rw', post⟩ := h
  refine ⟨_, hb cdv A outer s0 H E hr, Fr, R, as, slots0 N.length ws, C, start_ok St rw' N, ?_⟩
  have post : PostF K XR Fr R as Q E (finish C.length (s (slots0 N.length ws) C)) := post
  have cut : ∀ {R' : Hp} {as' : List Addr} {C' : Store} {H' : Hp}, Grow R as R' as' → StoreOk K Fr R' as' C' H' → Grow R as R' as ∧ StoreOk K Fr R' as (C'.take C.length) H' := fun {R' as' C' H'} g S' => by
    obtain ⟨g1, t, rfl⟩ := g
    have q := S'.cut
    rw [St.len] at q
    exact ⟨⟨g1, [], by simp⟩, q⟩
  cases e : s (slots0 N.length ws) C with
  | none => rw [e] at post; exact post
  | some o =>
    rw [e] at post
    cases o with
    | exc x δ' C' => exact fun R' as' σ' H' cls dd g S' q => let ⟨g2, S2⟩ := cut g S'.toStoreOk; post R' as H' cls dd g2 S2 q
    | ok fl C' =>
      cases fl with
      | rt r => exact fun R' as' v H' g S' p => fin_ok St.len post g S' p
      | nx δ' => exact fun R' as' σ' H' g S' => let ⟨g2, S2⟩ := cut g S'.toStoreOk; post R' as _ H' g2 S2 Rp.non
      | bk _ => exact post.elim
      | ct _ => exact post.elim
end

/-! ### contexts -/
structure Ctx where
  N : List Str
  sc : Scope
  fns : List (Str × Fn × List Bool)
  gstr : List (Str × Str)
  free : List Str
  cells : List Str
  new : Bool
structure CtxOk (Γ : Ctx) (X : Cx) (kx : KX) : Prop where
  hN : X.N = Γ.N
  nd : X.N.Nodup
  loc : ∀ x, Γ.sc.names.lookup x = some .local → X.env.scope.names.lookup x = some .local
  clf : ∀ x, (Γ.sc.names.lookup x = some .cell ∨ Γ.sc.names.lookup x = some .free) → X.env.scope.names.lookup x = some .cell ∨ X.env.scope.names.lookup x = some .free
  sto : ∀ x, (Γ.sc.names.lookup x = some .local ∨ Γ.sc.names.lookup x = some .cell) → Loc X.env.scope x ∧ (X.fn x = true ∨ X.env.scope.names.lookup x = some .local)
  gl : ∀ x, Γ.sc.names.lookup x = some .globalImplicit → Gl X x
  calm : X.calm = true
  K : kx.K = X.K
  tk : Takes X kx.W
  po : PassesOwn (model X.prog X.w) X.A X.env X.xe
  kind : X.env.scope.kind = .function
  fn : ∀ x F fl, Γ.fns.lookup x = some (F, fl) → Callable X kx x F
  str : ∀ x z, Γ.gstr.lookup x = some z → ∃ t, X.mg x = some (.str z t)
  free : ∀ x ∈ Γ.free, X.mg x = none
theorem look_relabel {env : Env} {x : Str} : ∀ {names : List (Str × NameKind)} {k : NameKind}, names.lookup x = some k → k ≠ .free →
    (names.map fun (n, k) => if (k == NameKind.free && env.scope.kind == .function && env.kindOf n == some .cell) then (n, NameKind.cell) else (n, k)).lookup x = some k
  | [], _, h, _ => by simp at h
  | (n, k') :: r, k, h, hk => by
    show List.lookup x ((if (k' == NameKind.free && env.scope.kind == .function && env.kindOf n == some .cell) = true then (n, NameKind.cell) else (n, k')) :: _) = _
    cases hx : x == n with
    | true =>
      simp only [List.lookup_cons, hx] at h
      cases h
      rw [if_neg (by simp [beq_eq_false_iff_ne.mpr hk])]
      simp [List.lookup_cons, hx]
    | false =>
      simp only [List.lookup_cons, hx] at h
      have ih := look_relabel (env := env) h hk
      by_cases hc : (k' == NameKind.free && env.scope.kind == .function && env.kindOf n == some .cell) = true
      · rw [if_pos hc]; simp only [List.lookup_cons, hx]; exact ih
      · rw [if_neg hc]; simp only [List.lookup_cons, hx]; exact ih
theorem look_relabel_free {env : Env} {x : Str} : ∀ {names : List (Str × NameKind)}, names.lookup x = some .free →
    (names.map fun (n, k) => if (k == NameKind.free && env.scope.kind == .function && env.kindOf n == some .cell) then (n, NameKind.cell) else (n, k)).lookup x = some .cell ∨
    (names.map fun (n, k) => if (k == NameKind.free && env.scope.kind == .function && env.kindOf n == some .cell) then (n, NameKind.cell) else (n, k)).lookup x = some .free
  | [], h => by simp at h
  | (n, k') :: r, h => by
    show List.lookup x ((if (k' == NameKind.free && env.scope.kind == .function && env.kindOf n == some .cell) = true then (n, NameKind.cell) else (n, k')) :: _) = _ ∨ List.lookup x ((if (k' == NameKind.free && env.scope.kind == .function && env.kindOf n == some .cell) = true then (n, NameKind.cell) else (n, k')) :: _) = _
    cases hx : x == n with
    | true =>
      simp only [List.lookup_cons, hx] at h
      cases h
      by_cases hc : (NameKind.free == NameKind.free && env.scope.kind == .function && env.kindOf n == some .cell) = true
      · rw [if_pos hc]; left; simp [List.lookup_cons, hx]
      · rw [if_neg hc]; right; simp [List.lookup_cons, hx]
    | false =>
      simp only [List.lookup_cons, hx] at h
      have ih := look_relabel_free (env := env) h
      by_cases hc : (k' == NameKind.free && env.scope.kind == .function && env.kindOf n == some .cell) = true
      · rw [if_pos hc]; simp only [List.lookup_cons, hx]; exact ih
      · rw [if_neg hc]; simp only [List.lookup_cons, hx]; exact ih
theorem CtxOk.blk {Γ : Ctx} {X : Cx} {kx : KX} (c : CtxOk Γ X kx) {scope : Scope} (hk : scope.kind = .function) : Blk X scope fun Y => CtxOk { Γ with sc := scope } Y kx.nox := fun s H C cl fp => by
  refine ⟨c.hN, c.nd, fun x h => look_relabel h (by decide), fun x h => ?_, fun x h => ?_, fun x h => look_relabel h (by decide), c.calm, c.K, takes0, PassesOwn.never, hk, c.fn, c.str, c.free⟩
  · rcases h with h | h
    · exact .inl (look_relabel h (by decide))
    · exact look_relabel_free h
  · rcases h with h | h
    · exact ⟨.inl (look_relabel h (by decide)), .inr (look_relabel h (by decide))⟩
    · exact ⟨.inr (look_relabel h (by decide)), .inl (beq_iff_eq.mpr h)⟩
/-- the context of a def's body -/
theorem ctx_body {P : Program} {w : World} {K : PySem.W.Frag} {mg : Str → Option Value} {base : Heap} {N ps : List Str} {qual : Str} {scope : Scope} {f : Addr} {cdv : Value} {A : Around} {outer : List Env} {s : Shared} {H : Hp} {E : XK} {XR : Hp → Hp → Value → Option Addr → Exn → Prop}
    {fns : List (Str × Fn × List Bool)} {gstr : List (Str × Str)} {free cells : List Str} {new : Bool} (S : FnScope N ps scope)
    (hf : ∀ x F fl, fns.lookup x = some (F, fl) → Callable (cxOf (L2.CX P w) P w K mg base N qual scope f cdv A outer s H E) (kxOf K XR E) x F) (hs : ∀ x z, gstr.lookup x = some z → ∃ t, mg x = some (.str z t)) (hfree : ∀ x ∈ free, mg x = none) :
    CtxOk ⟨N, scope, fns, gstr, free, cells, new⟩ (cxOf (L2.CX P w) P w K mg base N qual scope f cdv A outer s H E) (kxOf K XR E) :=
  ⟨rfl, S.nd, fun _ h => h, fun _ h => h, fun x h => ⟨h, .inl rfl⟩, fun _ h => h, rfl, rfl, takes_of rfl rfl rfl rfl, passes_of rfl, S.kind, hf, hs, hfree⟩
end FL

/-! part FLm -/
set_option maxRecDepth 100000
set_option maxHeartbeats 4000007
/-! FL, part m: from the text to functions on data. -/
namespace FL
open L2 PyProof.Rows PySem.Spec PySem

/-! ### looks at the text -/
def ixOf (N : List Str) (x : Str) : Option Nat := N.findIdx? fun y => decide (y = x)
theorem ixOf_ok {N : List Str} {x : Str} {i : Nat} (h : ixOf N x = some i) : N[i]? = some x := by
  unfold ixOf at h
  obtain ⟨h1, h2, _⟩ := List.findIdx?_eq_some_iff_getElem.mp h
  rw [List.getElem?_eq_getElem h1, of_decide_eq_true h2]
def notStar : Expr → Bool
  | .Starred _ _ => false
  | _ => true
def notSet : Expr → Bool
  | .Set _ _ _ => false
  | _ => true
def notComp : Expr → Bool
  | .ListComp _ _ _ _ => false
  | .SetComp _ _ _ _ => false
  | .DictComp _ _ _ _ _ => false
  | _ => true
def notTup : Expr → Bool
  | .Tuple _ _ _ => false
  | .List _ _ => false
  | _ => true
def notSlice : Expr → Bool
  | .Slice _ _ _ _ => false
  | _ => true
def notCall : Expr → Bool
  | .Call _ _ _ _ => false
  | _ => true
def plainT : Expr → Bool
  | .UnaryOp .Not _ _ => false
  | .BoolOp _ _ _ => false
  | .IfExp _ _ _ _ => false
  | .Compare _ _ _ _ => false
  | _ => true
theorem star_ok {e : Expr} (h : notStar e = true) (es : List Expr) (env : Env) : starEach (e :: es) env = (false, eval e env) :: starEach es env := by
  cases e <;> first | rfl | (unfold starEach; rfl) | exact Bool.noConfusion h
theorem assign_ok {e : Expr} (h : notStar e = true) (es : List Expr) (env : Env) : assignEach (e :: es) env = (false, assign e env) :: assignEach es env := by
  cases e <;> first | rfl | (unfold assignEach; rfl) | exact Bool.noConfusion h
theorem stars_no (pos : Pos) (env : Env) : ∀ {es : List Expr}, es.all notStar = true → (backTo pos (starEach es env)).any (·.1) = false
  | [], _ => by unfold starEach; rfl
  | e :: es, h => by
    rw [List.all_cons, Bool.and_eq_true] at h
    rw [star_ok h.1]
    show (false || (backTo pos (starEach es env)).any (·.1)) = false
    rw [stars_no pos env h.2]
    rfl
theorem assign_len (env : Env) : ∀ {es : List Expr}, es.all notStar = true → (assignEach es env).length = es.length ∧ (assignEach es env).findIdx? (·.1) = none
  | [], _ => ⟨by unfold assignEach; rfl, by unfold assignEach; rfl⟩
  | e :: es, h => by
    rw [List.all_cons, Bool.and_eq_true] at h
    obtain ⟨h1, h2⟩ := assign_len env h.2
    rw [assign_ok h.1]
    refine ⟨by rw [List.length_cons, List.length_cons, h1], ?_⟩
    rw [List.findIdx?_cons, h2]
    rfl
theorem set_ok {e : Expr} (h : notSet e = true) (env : Env) : ∀ x, foldedSetIterable e env x = pure x := by
  intro x
  cases e <;> first | rfl | exact Bool.noConfusion h
theorem behind_ok {e : Expr} (h : notSet e = true) (op : CmpOp) : behindInMarks op e = false := by
  cases e <;> first | rfl | exact Bool.noConfusion h
theorem slice_ok {e : Expr} (h : notSlice e = true) : PlainIx e := by
  intro o i
  cases e <;> first | rfl | exact Bool.noConfusion h
theorem base_ok {e : Expr} (h : notCall e = true) (m : Str) (env : Env) : attributeBase e m env (eval e env) = eval e env := by
  cases e <;> first | rfl | exact Bool.noConfusion h
theorem swap_ok {e : Expr} (h : notComp e = true) (t : Option Expr) (l : Nat) (env : Env) : swapsWith e t l env = pure false := by
  cases e <;> first | rfl | exact Bool.noConfusion h
theorem stores_ok {e : Expr} (h : notTup e = true) (ts : List Expr) (env : Env) : swappedStores ts e env = pure none := by
  cases e <;> first | (unfold swappedStores; rcases ts with _ | ⟨t, _ | ⟨t2, ts⟩⟩ <;> first | rfl | (cases t <;> rfl)) | exact Bool.noConfusion h
theorem plain_ok {e : Expr} (h : plainT e = true) (env : Env) : ∀ whole, isTrue e env whole = (do let v ← whole; standAt e.pos; holding [v] (truthy v)) := by
  intro whole
  cases e with
  | UnaryOp op x p => cases op <;> first | rfl | exact Bool.noConfusion h
  | _ => first | rfl | exact Bool.noConfusion h

/-! ### names -/
def fStr (z : Str) : EF Res := ret (rd (.str z))
def cName (Γ : Ctx) (x : Str) : EF Res := match Γ.sc.names.lookup x with
  | some .local => (match ixOf Γ.N x with
    | some i => fVar i
    | none => stuck)
  | some .cell => (match ixOf Γ.N x with
    | some i => fVar i
    | none => stuck)
  | some .free => (match ixOf Γ.N x with
    | some i => fVar i
    | none => stuck)
  | some .globalImplicit => (match Γ.gstr.lookup x with
    | some z => if z.length ≤ sizeLine then fStr z else stuck
    | none => stuck)
  | _ => stuck
section
variable {Γ : Ctx} {X : Cx} {kx : KX} {pos : Pos}
theorem de_stuck {e : Expr} : DE X kx e stuck := ⟨fun _ _ _ _ _ _ ⟨_, _, _, _, _, _, h⟩ => h.elim⟩
theorem dt_stuck {e : Expr} : DT X kx e stuck := ⟨fun _ _ _ _ _ _ ⟨_, _, _, _, _, _, h⟩ => h.elim⟩
theorem dt_stuckW {e : Expr} : DTw X kx e stuck := ⟨fun _ _ _ _ _ _ _ ⟨_, _, _, _, _, _, h⟩ => h.elim⟩
theorem da_stuck {es : List Expr} : DA X kx es stuck := ⟨fun _ _ _ _ _ _ _ ⟨_, _, _, _, _, _, h⟩ => h.elim⟩
theorem daw_stuck {es : List Expr} : DAw X kx es stuck := ⟨fun _ _ _ _ _ _ _ ⟨_, _, _, _, _, _, h⟩ => h.elim⟩
theorem di_stuck {tg e : Expr} : DI X kx tg e stuck := ⟨fun _ _ _ _ _ _ ⟨_, _, _, _, _, _, h⟩ => h.elim⟩
theorem do_stuck {e : Option Expr} : DO X kx e stuck := ⟨fun _ _ _ _ _ _ ⟨_, _, _, _, _, _, h⟩ => h.elim⟩
theorem ds_stuck {st : Stmt} : DS X kx st stuck := ⟨fun _ _ _ _ _ _ ⟨_, _, _, _, _, _, h⟩ => h.elim⟩
theorem dss_stuck {sts : List Stmt} : DSs X kx sts stuck := ⟨fun _ _ _ _ _ _ ⟨_, _, _, _, _, _, h⟩ => h.elim⟩
def okName (x : Str) : Bool := (x == ("__debug__" : Str)) == false && (x == ("__classdict__" : Str)) == false && decide (x ≠ "__name__")
theorem de_slot {x : Str} {i : Nat} (c : CtxOk Γ X kx) (h : Γ.sc.names.lookup x = some .local ∨ Γ.sc.names.lookup x = some .cell ∨ Γ.sc.names.lookup x = some .free) (hi : ixOf Γ.N x = some i) (ho : okName x = true) : DE X kx (.Name x pos) (fVar i) := by
  unfold okName at ho
  simp only [Bool.and_eq_true, beq_iff_eq] at ho
  refine de_var (by rw [c.hN]; exact ixOf_ok hi) ?_ ho.1.1 ho.1.2
  rcases h with h | h
  · exact .inl (c.loc x h)
  · rcases c.clf x h with q | q
    · exact .inr (.inl q)
    · exact .inr (.inr q)
theorem de_name {x : Str} (c : CtxOk Γ X kx) (ho : okName x = true) : DE X kx (.Name x pos) (cName Γ x) := by
  unfold cName
  cases hk : Γ.sc.names.lookup x with
  | none => exact de_stuck
  | some k =>
    cases k with
    | «local» =>
      cases hi : ixOf Γ.N x with
      | none => exact de_stuck
      | some i => exact de_slot c (.inl hk) hi ho
    | cell =>
      cases hi : ixOf Γ.N x with
      | none => exact de_stuck
      | some i => exact de_slot c (.inr (.inl hk)) hi ho
    | free =>
      cases hi : ixOf Γ.N x with
      | none => exact de_stuck
      | some i => exact de_slot c (.inr (.inr hk)) hi ho
    | globalImplicit =>
      cases hz : Γ.gstr.lookup x with
      | none => exact de_stuck
      | some z =>
        simp only []
        by_cases hl : z.length ≤ sizeLine
        · rw [if_pos hl]
          obtain ⟨t, ht⟩ := c.str x z hz
          unfold okName at ho
          simp only [Bool.and_eq_true, beq_iff_eq] at ho
          exact de_ret (pe_glob (v := .str z) (c.gl x hk) ht ⟨t, rfl⟩ ho.1.1) fun _ => .str z hl
        · rw [if_neg hl]; exact de_stuck
    | globalExplicit => exact de_stuck
end

/-! ### the built-ins of one argument -/
/-- (is a type, its id, what it does) -/
def bltF (x : Str) : Option (Bool × String × (Vw → Option Res)) :=
  if x = "len" then some (false, "len", lenF)
  else if x = "int" then some (true, "int", intF)
  else if x = "all" then some (false, "all", allF)
  else if x = "any" then some (false, "any", anyF)
  else if x = "list" then some (true, "list", listF)
  else if x = "tuple" then some (true, "tuple", tupF)
  else if x = "dict" then some (true, "dict", dictF)
  else if x = "sorted" then some (false, "sorted", sortF)
  else none
def tyName (x : Str) : Option String :=
  if x = "bool" then some "bool"
  else if x = "int" then some "int"
  else if x = "str" then some "str"
  else if x = "list" then some "list"
  else if x = "tuple" then some "tuple"
  else if x = "dict" then some "dict"
  else none
/-- an expression that names a built-in class -/
def tyOfE (Γ : Ctx) : Expr → Option String
  | .Name x _ => if Γ.sc.names.lookup x = some .globalImplicit ∧ x ∈ Γ.free ∧ okName x = true then tyName x else none
  | _ => none
def tysOfE (Γ : Ctx) : List Expr → Option (List String)
  | [] => some []
  | e :: es => match tyOfE Γ e, tysOfE Γ es with
    | some n, some ns => some (n :: ns)
    | _, _ => none
section
variable {Γ : Ctx} {X : Cx} {kx : KX} {pos : Pos}
theorem tyName_ok {x : Str} {n : String} (h : tyName x = some n) : bootBuiltins x = some (.type n) ∧ clsN n = true := by
  unfold tyName at h
  split at h
  · rename_i e; subst e; cases h; exact ⟨by decide +kernel, by decide⟩
  split at h
  · rename_i e; subst e; cases h; exact ⟨by decide +kernel, by decide⟩
  split at h
  · rename_i e; subst e; cases h; exact ⟨by decide +kernel, by decide⟩
  split at h
  · rename_i e; subst e; cases h; exact ⟨by decide +kernel, by decide⟩
  split at h
  · rename_i e; subst e; cases h; exact ⟨by decide +kernel, by decide⟩
  split at h
  · rename_i e; subst e; cases h; exact ⟨by decide +kernel, by decide⟩
  cases h
theorem okName_ne {x : Str} (h : okName x = true) : (x == ("__debug__" : Str)) = false ∧ x ≠ "__name__" := by
  unfold okName at h
  simp only [Bool.and_eq_true, beq_iff_eq, decide_eq_true_eq] at h
  exact ⟨h.1.1, h.2⟩
theorem tyOf_ok {e : Expr} {n : String} (c : CtxOk Γ X kx) (h : tyOfE Γ e = some n) : PE X e (tC (.ty n)) ∧ notStar e = true ∧ clsN n = true := by
  cases e <;> try cases h
  rename_i x p
  have h : (if Γ.sc.names.lookup x = some .globalImplicit ∧ x ∈ Γ.free ∧ okName x = true then tyName x else none) = some n := h
  split at h
  · rename_i q
    obtain ⟨h1, h2⟩ := tyName_ok h
    obtain ⟨o1, o2⟩ := okName_ne q.2.2
    exact ⟨pe_bltn (c.gl x q.1) (c.free x q.2.1) h1 rfl o2 o1, rfl, h2⟩
  · cases h
theorem tysOf_ok (c : CtxOk Γ X kx) : ∀ {es : List Expr} {ns : List String}, tysOfE Γ es = some ns → Paired (fun e n => PE X e (tC (.ty n)) ∧ ∀ es, starEach (e :: es) X.env = (false, eval e X.env) :: starEach es X.env) es ns ∧ ns.all clsN = true
  | [], ns, h => by cases h; exact ⟨.nil, rfl⟩
  | e :: es, ns, h => by
    unfold tysOfE at h
    cases h1 : tyOfE Γ e with
    | none => simp only [h1] at h; cases h
    | some n =>
      cases h2 : tysOfE Γ es with
      | none => simp only [h1, h2] at h; cases h
      | some ms =>
        simp only [h1, h2] at h
        cases h
        obtain ⟨q1, q2⟩ := tysOf_ok c h2
        obtain ⟨p1, p2, p3⟩ := tyOf_ok c h1
        exact ⟨.cons ⟨p1, fun es => star_ok p2 es _⟩ q1, by rw [List.all_cons, p3, q2]; rfl⟩
theorem blt_ok {x : Str} {b : Bool} {id : String} {g : Vw → Option Res} (c : CtxOk Γ X kx) (h : bltF x = some (b, id, g)) :
    (b = true → bootBuiltins x = some (.type id) ∧ CallR X (.type id) (L1R kx g)) ∧ (b = false → bootBuiltins x = some (.builtin id) ∧ CallR X (.builtin id) (L1R kx g)) := by
  unfold bltF at h
  split at h
  · rename_i e; subst e; cases h; exact ⟨(fun z => Bool.noConfusion z), fun _ => ⟨by decide +kernel, cr_len c.K⟩⟩
  split at h
  · rename_i e; subst e; cases h; exact ⟨fun _ => ⟨by decide +kernel, cr_int c.K⟩, (fun z => Bool.noConfusion z)⟩
  split at h
  · rename_i e; subst e; cases h; exact ⟨(fun z => Bool.noConfusion z), fun _ => ⟨by decide +kernel, cr_allF c.K c.calm⟩⟩
  split at h
  · rename_i e; subst e; cases h; exact ⟨(fun z => Bool.noConfusion z), fun _ => ⟨by decide +kernel, cr_anyF c.K c.calm⟩⟩
  split at h
  · rename_i e; subst e; cases h; exact ⟨fun _ => ⟨by decide +kernel, cr_listF c.K⟩, (fun z => Bool.noConfusion z)⟩
  split at h
  · rename_i e; subst e; cases h; exact ⟨fun _ => ⟨by decide +kernel, cr_tupF c.K⟩, (fun z => Bool.noConfusion z)⟩
  split at h
  · rename_i e; subst e; cases h; exact ⟨fun _ => ⟨by decide +kernel, cr_dictF c.K c.calm⟩, (fun z => Bool.noConfusion z)⟩
  split at h
  · rename_i e; subst e; cases h; exact ⟨(fun z => Bool.noConfusion z), fun _ => ⟨by decide +kernel, cr_sortF c.K c.calm⟩⟩
  cases h
end
end FL

/-! part FLn -/
set_option maxRecDepth 100000
set_option maxHeartbeats 4000007
/-! FL, part n: the functions of a text. -/
namespace FL
open L2 PyProof.Rows PySem.Spec PySem

/-- data alone; as it is, kept; data as a value -/
abbrev aD (f : EF Res) : EF D := bnd f resD
abbrev aW (f : EF Res) : EF W := bnd f resW
abbrev aDW (f : EF Res) : EF W := bnd (bnd f resD) fun d => ret (.d d)
/-- a comprehension's own names and their slots -/
def ownOf (N : List Str) (scope : Scope) : List (Str × Nat) := scope.names.filterMap fun p => match p.2 with
  | .local => (ixOf N p.1).map fun i => (p.1, i)
  | .cell => (ixOf N p.1).map fun i => (p.1, i)
  | _ => none
mutual
def cG : Nat → Ctx → Expr → Option (List Nat × TF)
  | 0, _, _ => none
  | n + 1, Γ, e => match e with
    | .Name x _ => if (Γ.sc.names.lookup x = some .local ∨ Γ.sc.names.lookup x = some .cell) ∧ okName x = true then (ixOf Γ.N x).map fun i => ([i], tName i) else none
    | .Tuple es _ _ => if es.all notStar = true then (cGs n Γ es).map fun p => (p.1, tTupF es.length p.2) else none
    | _ => none
def cGs : Nat → Ctx → List Expr → Option (List Nat × TFs)
  | 0, _, _ => none
  | n + 1, Γ, es => match es with
    | [] => some ([], tNilF)
    | e :: es => (match cG n Γ e, cGs n Γ es with
      | some p, some q => some (p.1 ++ q.1, tConsF p.2 q.2)
      | _, _ => none)
end
mutual
def cE : Nat → Ctx → Expr → EF Res
  | 0, _, _ => stuck
  | n + 1, Γ, e => match e with
    | .Constant k _ _ => (match k with
      | .int i => ret (rd (.int i))
      | .bool b => ret (rd (.bl b))
      | .none => ret (rd .non)
      | .str x => if x.length ≤ sizeLine then ret (rd (.str x)) else stuck
      | _ => stuck)
    | .Name x _ => if okName x = true then cName Γ x else stuck
    | .BinOp a op b _ => fOp (opF op) (aD (cE n Γ a)) (aD (cE n Γ b))
    | .UnaryOp op a _ => (match op with
      | .Not => fNotV (aD (cE n Γ a))
      | .USub => fNeg (aD (cE n Γ a))
      | _ => stuck)
    | .BoolOp op es _ => cB n Γ op es
    | .Compare a ops bs _ => fB (cC n Γ a ops bs)
    | .IfExp c a b _ => fIte (cT n Γ c) (cE n Γ a) (cE n Γ b)
    | .Subscript a b _ => (match b with
      | .Slice lo hi st _ => (match st with
        | none => fSl (cE n Γ a) (cP n Γ lo) (cP n Γ hi)
        | _ => stuck)
      | b => if notSlice b = true then fIx (cE n Γ a) (aD (cE n Γ b)) else stuck)
    | .Tuple es _ _ => if es.all notStar = true then fTup (cA n Γ es) else stuck
    | .List es _ => if es.all notStar = true then fLst (cA n Γ es) else stuck
    | .Dict ks vs _ => (match ks, vs with
      | [], [] => fDct0
      | _, _ => stuck)
    | .ListComp elt gs scope _ => (match gs with
      | [⟨tg, iter, ifs, asy⟩] => if asy = 0 ∧ blkC Γ.N Γ.sc scope (ownOf Γ.N scope) = true ∧ notSet iter = true then (match cG n { Γ with sc := scope } tg with
          | some (ix, t) => if (ix.all fun i => ((ownOf Γ.N scope).map (·.2)).contains i) = true then fLC (cI n Γ tg iter) ((ownOf Γ.N scope).map (·.2)) t (cF n { Γ with sc := scope } ifs) (aD (cE n { Γ with sc := scope } elt)) else stuck
          | none => stuck) else stuck
      | _ => stuck)
    | .DictComp k v gs scope _ => (match gs with
      | [⟨tg, iter, ifs, asy⟩] => if asy = 0 ∧ blkC Γ.N Γ.sc scope (ownOf Γ.N scope) = true ∧ notSet iter = true then (match cG n { Γ with sc := scope } tg with
          | some (ix, t) => if (ix.all fun i => ((ownOf Γ.N scope).map (·.2)).contains i) = true then fDC (cI n Γ tg iter) ((ownOf Γ.N scope).map (·.2)) t (cF n { Γ with sc := scope } ifs) (aD (cE n { Γ with sc := scope } k)) (aD (cE n { Γ with sc := scope } v)) else stuck
          | none => stuck) else stuck
      | _ => stuck)
    | .Call f args kws pos => (match kws with
      | [] => cCall n Γ f args pos
      | _ => stuck)
    | _ => stuck
/-- a comprehension's test -/
def cF : Nat → Ctx → List Expr → EF Bool
  | 0, _, _ => stuck
  | n + 1, Γ, ifs => match ifs with
    | [] => ret true
    | [c] => cT n Γ c
    | _ => stuck
/-- a test -/
def cT : Nat → Ctx → Expr → EF Bool
  | 0, _, _ => stuck
  | n + 1, Γ, e => match e with
    | .UnaryOp op a p => (match op with
      | .Not => fNotT (cT n Γ a)
      | op => if plainT (.UnaryOp op a p) = true then fTru (cE n Γ (.UnaryOp op a p)) else stuck)
    | .BoolOp op es _ => cBT n Γ op es
    | .Compare a ops bs _ => cC n Γ a ops bs
    | e => if plainT e = true then fTru (cE n Γ e) else stuck
def cBT : Nat → Ctx → BoolOp → List Expr → EF Bool
  | 0, _, _, _ => stuck
  | n + 1, Γ, op, es => match es with
    | [] => stuck
    | [a] => cT n Γ a
    | a :: b :: r => (match op with
      | .And => fAndT (cT n Γ a) (cBT n Γ .And (b :: r))
      | .Or => fOrT (cT n Γ a) (cBT n Γ .Or (b :: r)))
def cB : Nat → Ctx → BoolOp → List Expr → EF Res
  | 0, _, _, _ => stuck
  | n + 1, Γ, op, es => match es with
    | [] => stuck
    | [a] => cE n Γ a
    | a :: b :: r => (match op with
      | .And => fAndV (aD (cE n Γ a)) (cB n Γ .And (b :: r))
      | .Or => fOrV (aD (cE n Γ a)) (cB n Γ .Or (b :: r)))
def cC : Nat → Ctx → Expr → List CmpOp → List Expr → EF Bool
  | 0, _, _, _, _ => stuck
  | n + 1, Γ, a, ops, bs => match ops, bs with
    | [op], [b] => (match op with
      | .Is => (match b with
        | .Constant .none _ _ => fIsN false (cE n Γ a)
        | _ => stuck)
      | .IsNot => (match b with
        | .Constant .none _ _ => fIsN true (cE n Γ a)
        | _ => stuck)
      | .In => if notSet b = true then fIn false (aD (cE n Γ a)) (cE n Γ b) else stuck
      | .NotIn => if notSet b = true then fIn true (aD (cE n Γ a)) (cE n Γ b) else stuck
      | op => if notSet b = true then fCmp (cmpF op) (aD (cE n Γ a)) (aD (cE n Γ b)) else stuck)
    | [op, op'], [b, c] => if notSet c = true then fChain (cmpF op) (cmpF op') (aD (cE n Γ a)) (aD (cE n Γ b)) (aD (cE n Γ c)) else stuck
    | _, _ => stuck
/-- a slice's part -/
def cP : Nat → Ctx → Option Expr → EF (Option Int)
  | 0, _, _ => stuck
  | n + 1, Γ, e => match e with
    | none => ret none
    | some e => fPart (aD (cE n Γ e))
/-- data, one after another -/
def cA : Nat → Ctx → List Expr → EF (List D)
  | 0, _, _ => stuck
  | n + 1, Γ, es => match es with
    | [] => fNil
    | e :: es => fCons (aD (cE n Γ e)) (cA n Γ es)
/-- arguments: kept as they are where it is said so -/
def cW : Nat → Ctx → List Bool → List Expr → EF (List W)
  | 0, _, _, _ => stuck
  | n + 1, Γ, fl, es => match es with
    | [] => fNil
    | e :: es => (match fl with
      | true :: fl => fCons (aW (cE n Γ e)) (cW n Γ fl es)
      | _ :: fl => fCons (aDW (cE n Γ e)) (cW n Γ fl es)
      | [] => fCons (aDW (cE n Γ e)) (cW n Γ [] es))
/-- what is walked -/
def cI : Nat → Ctx → Expr → Expr → EF (List D)
  | 0, _, _, _ => stuck
  | n + 1, Γ, tg, it => match it with
    | .Call (.Name f p) args [] pos => if Γ.sc.names.lookup f = some .globalImplicit ∧ f ∈ Γ.free then
        (if f = "range" then (match args with
          | [a] => if notStar a = true then fRng1 (aD (cE n Γ a)) else stuck
          | [a, b] => if notStar a = true ∧ notStar b = true then fRng2 (aD (cE n Γ a)) (aD (cE n Γ b)) else stuck
          | _ => stuck)
        else if f = "enumerate" then (match args, tg with
          | [a], .Tuple _ _ _ => if notStar a = true then fEnum (aD (cE n Γ a)) else stuck
          | _, _ => stuck)
        else if f = "zip" then (match args, tg with
          | [a, b], .Tuple _ _ _ => if notStar a = true ∧ notStar b = true then fZip (aD (cE n Γ a)) (aD (cE n Γ b)) else stuck
          | _, _ => stuck)
        else fIt (aD (cE n Γ (.Call (.Name f p) args [] pos)))) else fIt (aD (cE n Γ (.Call (.Name f p) args [] pos)))
    | it => fIt (aD (cE n Γ it))
def cCall : Nat → Ctx → Expr → List Expr → Pos → EF Res
  | 0, _, _, _, _ => stuck
  | n + 1, Γ, f, args, pos => match f with
    | .Name x _ => if Γ.sc.names.lookup x = some .globalImplicit ∧ okName x = true ∧ args.all notStar = true then
        (match Γ.fns.lookup x with
        | some (F, fl) => (match args with
          | [] => stuck
          | _ :: _ => fCall F (cW n Γ fl args))
        | none => if x ∈ Γ.free then
            (if x = "isinstance" then (match args with
              | [a, .Tuple cs _ _] => (match tysOfE Γ cs with
                | some ns => if ns.length ≤ 100 then fIsi ns (cE n Γ a) else stuck
                | none => stuck)
              | [a, c] => (match tyOfE Γ c with
                | some n' => fIsi [n'] (cE n Γ a)
                | none => stuck)
              | _ => stuck)
            else (match args with
              | [a] => (match bltF x with
                | some (_, _, g) => fCall1 g (cE n Γ a)
                | none => stuck)
              | _ => stuck)) else stuck) else stuck
    | .Attribute o m apos => (match args with
      | [a] => if notCall o = true ∧ notStar a = true ∧ (apos.endLine == pos.line) = true then
          (if m = "append" then fAppend (cE n Γ o) (aD (cE n Γ a))
          else if m = "pop" then fPopAt (cE n Γ o) (aD (cE n Γ a))
          else stuck) else stuck
      | _ => stuck)
    | _ => stuck
end
/-- a name's value: kept where the name is a cell's -/
def cV (n : Nat) (Γ : Ctx) (x : Str) (e : Expr) : EF W := if x ∈ Γ.cells then aW (cE n Γ e) else aDW (cE n Γ e)
/-- on one line, so that the model stores within -/
def parOk (Γ : Ctx) (x y : Str) (px py : Pos) (a b : Expr) : Bool :=
  decide (Γ.sc.names.lookup x = some .local) && (decide (Γ.sc.names.lookup y = some .local) && (py.line == px.line && (decide (x ≠ y) && (notStar a && (notStar b && (!([a, b].all (foldedForSure 8)) && !([a, b].all (constantsAlone 8))))))))
def fUnp (f : EF D) (t : TF) : SF := bnd f fun d δ C => match t d δ with
  | some δ' => some (.ok (.nx δ') C)
  | none => none
def cAsg (n : Nat) (Γ : Ctx) (t e : Expr) : SF := match t with
  | .Name x _ => if (Γ.sc.names.lookup x = some .local ∨ Γ.sc.names.lookup x = some .cell) ∧ okName x = true then (match ixOf Γ.N x with
      | some i => (match e with
        | .DictComp _ _ _ _ _ => stuck
        | .SetComp _ _ _ _ => stuck
        | e => fSet (cV n Γ x e) i)
      | none => stuck) else stuck
  | .Tuple ts k p => (match ts, e with
    | [.Name x px, .Name y py], .Tuple [a, b] _ _ => (match ixOf Γ.N x, ixOf Γ.N y with
      | some i, some j => if parOk Γ x y px py a b = true then fPar (cW n Γ [decide (x ∈ Γ.cells), decide (y ∈ Γ.cells)] [a, b]) i j else stuck
      | _, _ => stuck)
    | ts, e => if notTup e = true ∧ notComp e = true then (match cG n Γ (.Tuple ts k p) with
      | some (_, t) => fUnp (aD (cE n Γ e)) t
      | none => stuck) else stuck)
  | .Subscript o i _ => if notTup e = true ∧ notComp e = true ∧ notSlice i = true then fSetIx (aD (cE n Γ e)) (cE n Γ o) (aD (cE n Γ i)) else stuck
  | _ => stuck
mutual
def cS : Nat → Ctx → Stmt → SF
  | 0, _, _ => stuck
  | n + 1, Γ, st => match st with
    | .Expr e _ => if notComp e = true then fExpr (cE n Γ e) else stuck
    | .Return e _ => (match e with
      | some e => if Γ.new = true then fRet (cE n Γ e) else fRetD (aD (cE n Γ e))
      | none => fRetN)
    | .Pass _ => fNext
    | .Break _ => fBreak
    | .Continue _ => fCont
    | .If c a b _ => fIf (cT n Γ c) (cSs n Γ a) (cSs n Γ b)
    | .For tg it body els _ => (match els, cG n Γ tg with
      | [], some (_, t) => if notSet it = true then fFor (cI n Γ tg it) t (cSs n Γ body) else stuck
      | _, _ => stuck)
    | .While c body els _ => (match els with
      | [] => fWhile (cT n Γ c) (cSs n Γ body) 1000000000
      | _ => stuck)
    | .Assign ts e _ => (match ts with
      | [t] => cAsg n Γ t e
      | _ => stuck)
    | _ => stuck
def cSs : Nat → Ctx → List Stmt → SF
  | 0, _, _ => stuck
  | n + 1, Γ, sts => match sts with
    | [] => fNext
    | st :: sts => fSeq (cS n Γ st) (cSs n Γ sts)
end
end FL

/-! part FLo -/
set_option maxRecDepth 100000
set_option maxHeartbeats 4000007
/-! FL, part o: the functions of a text are what the text does. -/
namespace FL
open L2 PyProof.Rows PySem.Spec PySem

section
variable {Γ : Ctx} {X : Cx} {kx : KX} {pos : Pos}
theorem cG_ok (c : CtxOk Γ X kx) : ∀ n : Nat, (∀ {e : Expr} {ix : List Nat} {t : TF}, cG n Γ e = some (ix, t) → DG X kx e ix t) ∧ (∀ {es : List Expr} {ix : List Nat} {t : TFs}, es.all notStar = true → cGs n Γ es = some (ix, t) → DGs X kx es ix t)
  | 0 => ⟨(fun h => by unfold cG at h; cases h), (fun _ h => by unfold cGs at h; cases h)⟩
  | n + 1 => by
    obtain ⟨ih1, ih2⟩ := cG_ok c n
    refine ⟨fun {e ix t} h => ?_, fun {es ix t} hs h => ?_⟩
    · unfold cG at h
      cases e <;> try cases h
      · rename_i x p
        have h : (if (Γ.sc.names.lookup x = some .local ∨ Γ.sc.names.lookup x = some .cell) ∧ okName x = true then (ixOf Γ.N x).map fun i => ([i], tName i) else none) = some (ix, t) := h
        split at h
        · rename_i q
          cases hi : ixOf Γ.N x with
          | none => rw [hi] at h; cases h
          | some i =>
            rw [hi] at h
            cases h
            obtain ⟨s1, s2⟩ := c.sto x q.1
            exact dg_name c.nd (by rw [c.hN]; exact ixOf_ok hi) s1 s2
        · cases h
      · rename_i es k p
        have h : (if es.all notStar = true then (cGs n Γ es).map fun p => (p.1, tTupF es.length p.2) else none) = some (ix, t) := h
        split at h
        · rename_i q
          cases hg : cGs n Γ es with
          | none => rw [hg] at h; cases h
          | some r =>
            obtain ⟨ix', t'⟩ := r
            rw [hg] at h
            cases h
            obtain ⟨l1, l2⟩ := assign_len X.env q
            exact dg_tup c.K c.calm (ih2 q hg) l1 l2
        · cases h
    · unfold cGs at h
      cases es with
      | nil => cases h; exact dgs_nil
      | cons e es =>
        rw [List.all_cons, Bool.and_eq_true] at hs
        cases h1 : cG n Γ e with
        | none => simp only [h1] at h; cases h
        | some p =>
          cases h2 : cGs n Γ es with
          | none => simp only [h1, h2] at h; cases h
          | some q =>
            simp only [h1, h2] at h
            cases h
            exact dgs_cons (ih1 h1) (ih2 hs.2 h2) (by rw [assign_ok hs.1]; rfl)
/-- a comprehension's names, for the block -/
theorem blk_ok (c : CtxOk Γ X kx) {scope : Scope} {own : List (Str × Nat)} (h : blkC Γ.N Γ.sc scope own = true) : BlkOk X.N X.env.scope scope own ∧ scope.kind = .function := by
  have q := blkOk_by h
  exact ⟨⟨q.kind, q.uniq, fun p hp => by rw [c.hN]; exact q.ix p hp, fun y hy e => c.clf y.1 (q.free y hy e), fun y hy e => by rw [c.hN]; exact q.own y hy e⟩, q.kind⟩
theorem pts_stuck {ifs : List Expr} : PTs X ifs (Lft kx PB stuck) := ⟨fun _ _ _ _ _ _ ⟨_, _, _, _, _, _, h⟩ => h.elim⟩
theorem pts_true : PTs X [] (Lft kx PB (ret true)) := ⟨fun pins s σ H Q I ⟨Fr, R, as, δ, C, S, h⟩ => pts_nil.run pins s σ H Q I (ret_b S h)⟩

structure Snd (n : Nat) : Prop where
  e : ∀ {Γ X kx} (e : Expr), CtxOk Γ X kx → DE X kx e (cE n Γ e)
  f : ∀ {Γ X kx} (ifs : List Expr), CtxOk Γ X kx → PTs X ifs (Lft kx PB (cF n Γ ifs))
  t : ∀ {Γ X kx} (e : Expr), CtxOk Γ X kx → DT X kx e (cT n Γ e)
  bt : ∀ {Γ X kx} (op : BoolOp) (es : List Expr) (pos : Pos), CtxOk Γ X kx → DTw X kx (.BoolOp op es pos) (cBT n Γ op es)
  b : ∀ {Γ X kx} (op : BoolOp) (es : List Expr) (pos : Pos), CtxOk Γ X kx → DE X kx (.BoolOp op es pos) (cB n Γ op es)
  c : ∀ {Γ X kx} (a : Expr) (ops : List CmpOp) (bs : List Expr) (pos : Pos), CtxOk Γ X kx → DT X kx (.Compare a ops bs pos) (cC n Γ a ops bs)
  cv : ∀ {Γ X kx} (a : Expr) (ops : List CmpOp) (bs : List Expr) (pos : Pos), CtxOk Γ X kx → DE X kx (.Compare a ops bs pos) (fB (cC n Γ a ops bs))
  p : ∀ {Γ X kx} (e : Option Expr), CtxOk Γ X kx → DO X kx e (cP n Γ e)
  a : ∀ {Γ X kx} (es : List Expr), CtxOk Γ X kx → es.all notStar = true → DA X kx es (cA n Γ es)
  w : ∀ {Γ X kx} (fl : List Bool) (es : List Expr), CtxOk Γ X kx → es.all notStar = true → DAw X kx es (cW n Γ fl es)
  i : ∀ {Γ X kx} (tg it : Expr), CtxOk Γ X kx → DI X kx tg it (cI n Γ tg it)
  call : ∀ {Γ X kx} (f : Expr) (args : List Expr) (pos : Pos), CtxOk Γ X kx → DE X kx (.Call f args [] pos) (cCall n Γ f args pos)
theorem all1 {a : Expr} (h : notStar a = true) : [a].all notStar = true := by simp [h]
theorem star1 {a : Expr} (h : notStar a = true) (env : Env) : starEach [a] env = [(false, eval a env)] := by rw [star_ok h]; unfold starEach; rfl
theorem star2 {a b : Expr} (h : notStar a = true) (h' : notStar b = true) (env : Env) : starEach [a, b] env = [(false, eval a env), (false, eval b env)] := by rw [star_ok h, star_ok h']; unfold starEach; rfl
theorem snd0 : Snd 0 where
  e := fun e c => by unfold cE; exact de_stuck
  f := fun ifs c => by unfold cF; exact pts_stuck
  t := fun e c => by unfold cT; exact dt_stuck
  bt := fun op es pos c => by unfold cBT; exact dt_stuckW
  b := fun op es pos c => by unfold cB; exact de_stuck
  c := fun a ops bs pos c => by unfold cC; exact dt_stuck
  cv := fun a ops bs pos c => by unfold cC; exact de_stuck
  p := fun e c => by unfold cP; exact do_stuck
  a := fun es c _ => by unfold cA; exact da_stuck
  w := fun fl es c _ => by unfold cW; exact daw_stuck
  i := fun tg it c => by unfold cI; exact di_stuck
  call := fun f args pos c => by unfold cCall; exact de_stuck
section
variable {n : Nat} (ih : Snd n)
include ih
theorem step_f {ifs : List Expr} (c : CtxOk Γ X kx) : PTs X ifs (Lft kx PB (cF (n + 1) Γ ifs)) := by
  unfold cF
  match ifs with
  | [] => exact pts_true
  | [t] => exact pts_one (ih.t t c)
  | _ :: _ :: _ => exact pts_stuck
theorem step_t {e : Expr} (c : CtxOk Γ X kx) : DT X kx e (cT (n + 1) Γ e) := by
  have gen : ∀ {e : Expr}, DT X kx e (if plainT e = true then fTru (cE n Γ e) else stuck) := fun {e} => by
    split
    · rename_i h; exact dt_tru c.K (ih.e e c) (plain_ok h _)
    · exact dt_stuck
  unfold cT
  cases e with
  | UnaryOp op a p =>
    cases op with
    | Not => exact dt_not (ih.t a c)
    | _ => exact gen
  | BoolOp op es p => exact (ih.bt op es p c).pt
  | Compare a ops bs p => exact ih.c a ops bs p c
  | _ => exact gen
theorem step_bt {op : BoolOp} {es : List Expr} (c : CtxOk Γ X kx) : DTw X kx (.BoolOp op es pos) (cBT (n + 1) Γ op es) := by
  unfold cBT
  match es with
  | [] => exact dt_stuckW
  | [a] => cases op with
    | And => exact dw_and1 (ih.t a c)
    | Or => exact dw_or1 (ih.t a c)
  | a :: b :: r => cases op with
    | And => exact dw_and (ih.t a c) (ih.bt .And (b :: r) pos c)
    | Or => exact dw_or (ih.t a c) (ih.bt .Or (b :: r) pos c)
theorem step_b {op : BoolOp} {es : List Expr} (c : CtxOk Γ X kx) : DE X kx (.BoolOp op es pos) (cB (n + 1) Γ op es) := by
  unfold cB
  match es with
  | [] => exact de_stuck
  | [a] => exact de_one (ih.e a c)
  | a :: b :: r => cases op with
    | And => exact de_and (dd_of (ih.e a c)) (ih.b .And (b :: r) pos c)
    | Or => exact de_or (dd_of (ih.e a c)) (ih.b .Or (b :: r) pos c)
theorem step_c {a : Expr} {ops : List CmpOp} {bs : List Expr} (c : CtxOk Γ X kx) : DT X kx (.Compare a ops bs pos) (cC (n + 1) Γ a ops bs) ∧ DE X kx (.Compare a ops bs pos) (fB (cC (n + 1) Γ a ops bs)) := by
  have st : DT X kx (.Compare a ops bs pos) stuck ∧ DE X kx (.Compare a ops bs pos) (fB stuck) := ⟨dt_stuck, de_stuck⟩
  have da := dd_of (ih.e a c)
  unfold cC
  match ops, bs with
  | [], _ => exact st
  | [_], [] => exact st
  | [_], _ :: _ :: _ => exact st
  | _ :: _ :: _ :: _, _ => exact st
  | [_, _], [] => exact st
  | [_, _], [_] => exact st
  | [_, _], _ :: _ :: _ :: _ => exact st
  | [op], [b] =>
    have gen : ∀ op, DT X kx (.Compare a [op] [b] pos) (if notSet b = true then fCmp (cmpF op) (aD (cE n Γ a)) (aD (cE n Γ b)) else stuck) ∧ DE X kx (.Compare a [op] [b] pos) (fB (if notSet b = true then fCmp (cmpF op) (aD (cE n Γ a)) (aD (cE n Γ b)) else stuck)) := fun op => by
      by_cases h : notSet b = true
      · rw [if_pos h]
        exact ⟨dt_cmp (opr_cmp c.K op) da (dd_of (ih.e b c)) (behind_ok h _), de_cmp (opr_cmp c.K op) da (dd_of (ih.e b c)) (behind_ok h _)⟩
      · rw [if_neg h]; exact ⟨dt_stuck, de_stuck⟩
    have ni : ∀ {op neg}, OpR X (compareOp op) (rInAll X.K neg) → DT X kx (.Compare a [op] [b] pos) (if notSet b = true then fIn neg (aD (cE n Γ a)) (cE n Γ b) else stuck) ∧ DE X kx (.Compare a [op] [b] pos) (fB (if notSet b = true then fIn neg (aD (cE n Γ a)) (cE n Γ b) else stuck)) := fun {op neg} ho => by
      by_cases h : notSet b = true
      · rw [if_pos h]
        exact ⟨dt_in ho c.K da (ih.e b c) (behind_ok h _), de_in ho c.K da (ih.e b c) (behind_ok h _)⟩
      · rw [if_neg h]; exact ⟨dt_stuck, de_stuck⟩
    cases op with
    | Is => cases b with
      | Constant k j p => cases k with
        | none => exact ⟨dt_isN (ih.e a c), de_isN (ih.e a c)⟩
        | _ => exact st
      | _ => exact st
    | IsNot => cases b with
      | Constant k j p => cases k with
        | none => exact ⟨dt_notN (ih.e a c), de_notN (ih.e a c)⟩
        | _ => exact st
      | _ => exact st
    | In => exact ni opr_in
    | NotIn => exact ni opr_notin
    | Eq => exact gen .Eq
    | NotEq => exact gen .NotEq
    | Lt => exact gen .Lt
    | LtE => exact gen .LtE
    | Gt => exact gen .Gt
    | GtE => exact gen .GtE
  | [op, op'], [b, d] =>
    by_cases h : notSet d = true
    · simp only [if_pos h]
      exact ⟨dt_chain (opr_cmp c.K op) (opr_cmp c.K op') da (dd_of (ih.e b c)) (dd_of (ih.e d c)) (behind_ok h _), de_chain (opr_cmp c.K op) (opr_cmp c.K op') da (dd_of (ih.e b c)) (dd_of (ih.e d c)) (behind_ok h _)⟩
    · simp only [if_neg h]; exact ⟨dt_stuck, de_stuck⟩
theorem step_p {e : Option Expr} (c : CtxOk Γ X kx) : DO X kx e (cP (n + 1) Γ e) := by
  unfold cP
  match e with
  | none => exact do_none
  | some e => exact do_some (dd_of (ih.e e c))
theorem step_a {es : List Expr} (c : CtxOk Γ X kx) (h : es.all notStar = true) : DA X kx es (cA (n + 1) Γ es) := by
  unfold cA
  match es, h with
  | [], _ => exact da_nil
  | e :: es, h =>
    rw [List.all_cons, Bool.and_eq_true] at h
    exact da_cons (dd_of (ih.e e c)) (ih.a es c h.2) (star_ok h.1 _ _)
theorem step_w {fl : List Bool} {es : List Expr} (c : CtxOk Γ X kx) (h : es.all notStar = true) : DAw X kx es (cW (n + 1) Γ fl es) := by
  unfold cW
  match es, h with
  | [], _ => exact dw_nil
  | e :: es, h =>
    rw [List.all_cons, Bool.and_eq_true] at h
    match fl with
    | [] => exact dw_cons (dwd_of (dd_of (ih.e e c))) (ih.w [] es c h.2) (star_ok h.1 _ _)
    | true :: fl => exact dw_cons (dw_of (ih.e e c)) (ih.w fl es c h.2) (star_ok h.1 _ _)
    | false :: fl => exact dw_cons (dwd_of (dd_of (ih.e e c))) (ih.w fl es c h.2) (star_ok h.1 _ _)
theorem step_i {tg it : Expr} (c : CtxOk Γ X kx) : DI X kx tg it (cI (n + 1) Γ tg it) := by
  have gen : ∀ {it : Expr}, DI X kx tg it (fIt (aD (cE n Γ it))) := fun {it} => di_data c.K (dd_of (ih.e it c))
  unfold cI
  split
  · rename_i f p args pos
    split
    · rename_i h
      have hg := c.gl f h.1
      have hm := c.free f h.2
      split
      · rename_i hf
        subst hf
        match args with
        | [] => exact di_stuck
        | [a] =>
          simp only []
          split
          · rename_i q; exact di_range1 hg hm (dd_of (ih.e a c)) (star1 q _)
          · exact di_stuck
        | [a, b] =>
          simp only []
          split
          · rename_i q; exact di_range2 hg hm (dd_of (ih.e a c)) (dd_of (ih.e b c)) (star2 q.1 q.2 _) (star1 q.2 _)
          · exact di_stuck
        | _ :: _ :: _ :: _ => exact di_stuck
      split
      · rename_i hf
        subst hf
        split
        · split
          · rename_i q; exact di_enum c.K hg hm (dd_of (ih.e _ c)) (star1 q _)
          · exact di_stuck
        · exact di_stuck
      split
      · rename_i hf
        subst hf
        split
        · split
          · rename_i q; exact di_zip c.K hg hm (dd_of (ih.e _ c)) (dd_of (ih.e _ c)) (star2 q.1 q.2 _) (star1 q.2 _)
          · exact di_stuck
        · exact di_stuck
      exact gen
    · exact gen
  · exact gen
theorem step_call {f : Expr} {args : List Expr} (c : CtxOk Γ X kx) : DE X kx (.Call f args [] pos) (cCall (n + 1) Γ f args pos) := by
  unfold cCall
  cases f with
  | Name x p =>
    simp only []
    split
    · rename_i h
      obtain ⟨hk, ho, hs⟩ := h
      obtain ⟨o1, o2⟩ := okName_ne ho
      have hg := c.gl x hk
      cases hf : Γ.fns.lookup x with
      | some r =>
        obtain ⟨F, fl⟩ := r
        cases args with
        | nil => exact de_stuck
        | cons e es =>
          have hs' := hs
          rw [List.all_cons, Bool.and_eq_true] at hs'
          exact de_call (c.fn x F fl hf) c.tk hg (ih.w fl (e :: es) c hs) o1 (star_ok hs'.1 _ _) (stars_no _ _ hs'.2)
      | none =>
        simp only []
        split
        · rename_i hfr
          have hm := c.free x hfr
          split
          · rename_i hx
            subst hx
            split
            · rename_i a cs k tp
              rw [List.all_cons, Bool.and_eq_true] at hs
              cases ht : tysOfE Γ cs with
              | none => exact de_stuck
              | some ns =>
                simp only []
                split
                · rename_i hl
                  obtain ⟨q1, q2⟩ := tysOf_ok c ht
                  exact de_isiT c.K hg hm q1 q2 hl (ih.e a c) (star_ok hs.1 _ _) (star_ok rfl _ _) (stars_no _ _ hs.2)
                · exact de_stuck
            · rename_i a c' _
              rw [List.all_cons, Bool.and_eq_true] at hs
              cases ht : tyOfE Γ c' with
              | none => exact de_stuck
              | some n' =>
                obtain ⟨q1, q2, q3⟩ := tyOf_ok c ht
                exact de_isi c.K hg hm q1 q3 (ih.e a c) (star_ok hs.1 _ _) (star_ok q2 _ _) (stars_no _ _ hs.2)
            · exact de_stuck
          · split
            · rename_i a
              rw [List.all_cons, Bool.and_eq_true] at hs
              cases hb : bltF x with
              | none => exact de_stuck
              | some r =>
                obtain ⟨b, id, g⟩ := r
                obtain ⟨q1, q2⟩ := blt_ok c hb
                cases b with
                | true => exact de_callTy (q1 rfl).2 hg hm (q1 rfl).1 (ih.e a c) o2 o1 (star_ok hs.1 _ _)
                | false => exact de_callB (q2 rfl).2 hg hm (q2 rfl).1 (ih.e a c) o2 o1 (star_ok hs.1 _ _)
            · exact de_stuck
        · exact de_stuck
    · exact de_stuck
  | Attribute o m apos =>
    match args with
    | [] => exact de_stuck
    | _ :: _ :: _ => exact de_stuck
    | [a] =>
      simp only []
      split
      · rename_i h
        split
        · rename_i hm; subst hm
          exact de_append c.K (ih.e o c) (dd_of (ih.e a c)) (base_ok h.1 _ _) h.2.2 (star_ok h.2.1 _ _)
        split
        · rename_i hm; subst hm
          exact de_popAt c.K (ih.e o c) (dd_of (ih.e a c)) (base_ok h.1 _ _) h.2.2 (star_ok h.2.1 _ _)
        exact de_stuck
      · exact de_stuck
  | _ => exact de_stuck
theorem step_e {e : Expr} (c : CtxOk Γ X kx) : DE X kx e (cE (n + 1) Γ e) := by
  unfold cE
  cases e with
  | Constant k j p =>
    cases k with
    | int i => exact de_int
    | bool b => exact de_bl
    | none => exact de_non
    | str x =>
      simp only []
      split
      · rename_i h; exact de_str h
      · exact de_stuck
    | _ => exact de_stuck
  | Name x p =>
    simp only []
    split
    · rename_i h; exact de_name c h
    · exact de_stuck
  | BinOp a op b p => exact de_op (opr_op c.K op) (dd_of (ih.e a c)) (dd_of (ih.e b c))
  | UnaryOp op a p =>
    cases op with
    | Not => exact de_not (dd_of (ih.e a c))
    | USub => exact de_neg (dd_of (ih.e a c))
    | _ => exact de_stuck
  | BoolOp op es p => exact ih.b op es p c
  | Compare a ops bs p => exact ih.cv a ops bs p c
  | IfExp t a b p => exact de_ite (ih.t t c) (ih.e a c) (ih.e b c)
  | Subscript a b p =>
    cases b with
    | Slice lo hi st p2 =>
      cases st with
      | none => exact de_sl c.K (ih.e a c) (ih.p lo c) (ih.p hi c)
      | some _ => exact de_stuck
    | _ =>
      simp only []
      split
      · rename_i h; exact de_ix c.K (ih.e a c) (dd_of (ih.e _ c)) (slice_ok h)
      · exact de_stuck
  | Tuple es k p =>
    simp only []
    split
    · rename_i h; exact de_tup (ih.a es c h)
    · exact de_stuck
  | List es p =>
    simp only []
    split
    · rename_i h; exact de_lst (ih.a es c h)
    · exact de_stuck
  | Dict ks vs p =>
    match ks, vs with
    | [], [] => exact de_dct0
    | [], _ :: _ => exact de_stuck
    | _ :: _, _ => exact de_stuck
  | ListComp elt gs scope p =>
    match gs with
    | [] => exact de_stuck
    | ⟨_, _, _, _⟩ :: _ :: _ => exact de_stuck
    | [⟨tg, iter, ifs, asy⟩] =>
      simp only []
      split
      · rename_i h
        obtain ⟨h1, h2, h3⟩ := h
        subst h1
        obtain ⟨bo, bk⟩ := blk_ok c h2
        have cb := c.blk bk
        cases hg : cG n { Γ with sc := scope } tg with
        | none => exact de_stuck
        | some r =>
          obtain ⟨ix, t⟩ := r
          simp only []
          split
          · rename_i hx
            exact de_lc c.calm c.nd (ih.i tg iter c) bo (fun i hi => by have q := List.all_eq_true.mp hx i hi; simpa using q) (fun s H C cl fp => (cG_ok (cb s H C cl fp) n).1 hg) (fun s H C cl fp => ih.f ifs (cb s H C cl fp)) (fun s H C cl fp => dd_of (ih.e elt (cb s H C cl fp))) (set_ok h3 _)
          · exact de_stuck
      · exact de_stuck
  | DictComp kxp vx gs scope p =>
    match gs with
    | [] => exact de_stuck
    | ⟨_, _, _, _⟩ :: _ :: _ => exact de_stuck
    | [⟨tg, iter, ifs, asy⟩] =>
      simp only []
      split
      · rename_i h
        obtain ⟨h1, h2, h3⟩ := h
        subst h1
        obtain ⟨bo, bk⟩ := blk_ok c h2
        have cb := c.blk bk
        cases hg : cG n { Γ with sc := scope } tg with
        | none => exact de_stuck
        | some r =>
          obtain ⟨ix, t⟩ := r
          simp only []
          split
          · rename_i hx
            exact de_dc c.calm c.nd (ih.i tg iter c) bo (fun i hi => by have q := List.all_eq_true.mp hx i hi; simpa using q) (fun s H C cl fp => (cG_ok (cb s H C cl fp) n).1 hg) (fun s H C cl fp => ih.f ifs (cb s H C cl fp)) (fun s H C cl fp => dd_of (ih.e kxp (cb s H C cl fp))) (fun s H C cl fp => dd_of (ih.e vx (cb s H C cl fp))) (set_ok h3 _)
          · exact de_stuck
      · exact de_stuck
  | Call f args kws p =>
    cases kws with
    | nil => exact ih.call f args p c
    | cons _ _ => exact de_stuck
  | _ => exact de_stuck
end
theorem snd : ∀ n : Nat, Snd n
  | 0 => snd0
  | n + 1 => by
    have ih := snd n
    exact ⟨fun e c => step_e ih c, fun ifs c => step_f ih c, fun e c => step_t ih c, fun op es pos c => step_bt ih c, fun op es pos c => step_b ih c, fun a ops bs pos c => (step_c ih c).1, fun a ops bs pos c => (step_c ih c).2, fun e c => step_p ih c,
      fun es c h => step_a ih c h, fun fl es c h => step_w ih c h, fun tg it c => step_i ih c, fun f args pos c => step_call ih c⟩
end
end FL

/-! part FLp -/
set_option maxRecDepth 100000
set_option maxHeartbeats 4000007
/-! FL, part p: the same of statements; a def of the text. -/
namespace FL
open L2 PyProof.Rows PySem.Spec PySem

section
variable {Γ : Ctx} {X : Cx} {kx : KX} {pos : Pos}
theorem par_ok {env : Env} {x y : Str} {px py pt pt2 : Pos} {kt k2 : Nat} {a b : Expr} (hk : env.scope.kind = .function) (hx : env.scope.names.lookup x = some .local) (hy : env.scope.names.lookup y = some .local) (hl : (py.line == px.line) = true) (hne : x ≠ y)
    (ha : notStar a = true) (hb : notStar b = true) (hf : ([a, b].all (foldedForSure 8)) = false) (hc : ([a, b].all (constantsAlone 8)) = false) :
    swappedStores [.Tuple [.Name x px, .Name y py] kt pt] (.Tuple [a, b] k2 pt2) env = pure (some [x, y]) := by
  have kx : env.kindOf x = some .local := hx
  have ky : env.kindOf y = some .local := hy
  have kb : env.blockKind = .function := by unfold Env.blockKind; rw [hk]; rfl
  have e1 : [x, y].eraseDups = [x, y] := by
    have : (y == x) = false := beq_eq_false_iff_ne.mpr (Ne.symm hne)
    simp [List.eraseDups_cons, this]
  unfold swappedStores
  simp only []
  rw [if_neg (by simp [kb]), if_neg (by cases a <;> first | exact Bool.noConfusion ha | (cases b <;> first | exact Bool.noConfusion hb | exact Bool.false_ne_true))]
  have e2 : ∀ f : Expr → Option Str, f (.Name x px) = some x → f (.Name y py) = some y → [Expr.Name x px, Expr.Name y py].filterMap f = [x, y] := fun f h1 h2 => by rw [List.filterMap_cons_some h1, List.filterMap_cons_some h2, List.filterMap_nil]
  have q1 : (env.kindOf x == some .local && px.line == px.line) = true := by rw [kx]; simp
  have q2 : (env.kindOf y == some .local && py.line == px.line) = true := by rw [ky, hl]; rfl
  erw [e2 _ (if_pos q1) (if_pos q2)]
  rw [e1, hf, hc]
  rfl
theorem sole_ok {e : Expr} (h : notComp e = true) (t : Expr) (l : Nat) (env : Env) : swapsWithSole [t] e l env = pure false := swap_ok h (some t) l env
theorem sub_ok {o i : Expr} (h : notSlice i = true) (p : Pos) (env : Env) : ∀ v, assign (.Subscript o i p) env v = (do
      let ov ← holding [v] (eval o env)
      let iv ← holding [v, ov] (eval i env)
      standAt p
      holding [v, ov, iv] (setItem ov iv v)
      release [v, ov, iv] []) := by
  intro v
  unfold assign
  cases i <;> first | rfl | exact Bool.noConfusion h
theorem dv_ok {n : Nat} {x : Str} {e : Expr} (c : CtxOk Γ X kx) : DW X kx e (cV n Γ x e) := by
  unfold cV
  split
  · exact dw_of ((snd n).e e c)
  · exact dwd_of (dd_of ((snd n).e e c))
theorem ds_unp {tg e : Expr} {f : EF D} {t : TF} {ix : List Nat} (he : DD X kx e f) (hg : DG X kx tg ix t) (hst : notStar tg = true) (hs : swapsWithSole [tg] e pos.line X.env = pure false) (hw : swappedStores [tg] e X.env = pure none) : DS X kx (.Assign [tg] e pos) (fUnp f t) :=
  weakS (ps_asg he hg hs hw (by rw [assign_ok hst]; unfold assignEach; rfl)) fun Dn σ H ⟨Fr, R, as, δ, C, S, h⟩ => lfs_bnd S h fun R1 as1 C1 v d H1 g1 S1 p1 h1 => by
    have h1 : PostS kx Fr R1 as1 Dn (match t d δ with
      | some δ' => some (.ok (.nx δ') C1)
      | none => none) := h1
    cases e : t d δ with
    | none => rw [e] at h1; exact h1.elim
    | some δ' =>
      rw [e] at h1
      exact ⟨Fr, R1, as1, δ, C1, d, δ', S1, p1, e, fun σ' S' _ => h1 R1 as1 σ' H1 (Grow.refl _ _) S'⟩
theorem ds_asg {n : Nat} {t e : Expr} (c : CtxOk Γ X kx) : DS X kx (.Assign [t] e pos) (cAsg n Γ t e) := by
  unfold cAsg
  cases t with
  | Name x p =>
    simp only []
    split
    · rename_i h
      cases hi : ixOf Γ.N x with
      | none => exact ds_stuck
      | some i =>
        obtain ⟨s1, s2⟩ := c.sto x h.1
        have hN : X.N[i]? = some x := by rw [c.hN]; exact ixOf_ok hi
        cases e with
        | DictComp _ _ _ _ _ => exact ds_stuck
        | SetComp _ _ _ _ => exact ds_stuck
        | ListComp elt gs scope lp =>
          -- within, or behind
          have beh : (swapsWith (.ListComp elt gs scope lp) (some (.Name x p)) pos.line X.env = pure false) ∨ (X.env.scope.names.lookup x = some .local ∧ swapsWith (.ListComp elt gs scope lp) (some (.Name x p)) pos.line X.env = pure true) := by
            have e0 : swapsWith (.ListComp elt gs scope lp) (some (.Name x p)) pos.line X.env = pure (X.env.blockKind == .function && X.env.kindOf x == some .local && p.line == lp.line && !(scope.names.any fun (n, k) => n == x && (k == .local || k == .cell))) := rfl
            cases hb : (X.env.blockKind == .function && X.env.kindOf x == some .local && p.line == lp.line && !(scope.names.any fun (n, k) => n == x && (k == .local || k == .cell))) with
            | false => left; rw [e0, hb]
            | true =>
              right
              refine ⟨?_, by rw [e0, hb]⟩
              simp only [Bool.and_eq_true, beq_iff_eq] at hb
              exact hb.1.1.2
          rcases beh with q | ⟨hl, q⟩
          · exact ds_set c.nd hN s1 (dv_ok c) q s2
          · show DS X kx _ (fSet (cV n Γ x _) i)
            unfold cV
            cases n with
            | zero =>
              unfold cE
              split <;> exact ds_stuck
            | succ n =>
              match gs with
              | [] => unfold cE; split <;> exact ds_stuck
              | ⟨_, _, _, _⟩ :: _ :: _ => unfold cE; split <;> exact ds_stuck
              | [⟨tg, iter, ifs, asy⟩] =>
                have ih := snd n
                unfold cE
                simp only []
                by_cases h : asy = 0 ∧ blkC Γ.N Γ.sc scope (ownOf Γ.N scope) = true ∧ notSet iter = true
                · simp only [if_pos h]
                  obtain ⟨h1, h2, h3⟩ := h
                  subst h1
                  obtain ⟨bo, bk⟩ := blk_ok c h2
                  have cb := c.blk bk
                  cases hg : cG n { Γ with sc := scope } tg with
                  | none => simp only []; split <;> exact ds_stuck
                  | some r =>
                    obtain ⟨ix, t⟩ := r
                    simp only []
                    by_cases hx : (ix.all fun i => ((ownOf Γ.N scope).map (·.2)).contains i) = true
                    · simp only [if_pos hx]
                      have hix : ∀ i ∈ ix, i ∈ (ownOf Γ.N scope).map (·.2) := fun i hi => by have q := List.all_eq_true.mp hx i hi; simpa using q
                      split
                      · exact ds_setLc c.calm c.nd (ih.i tg iter c) bo hix (fun s H C cl fp => (cG_ok (cb s H C cl fp) n).1 hg) (fun s H C cl fp => ih.f ifs (cb s H C cl fp)) (fun s H C cl fp => dd_of (ih.e elt (cb s H C cl fp))) (set_ok h3 _) hN hl q (fun S p h => res_w S p h)
                      · have w : ∀ {Fr R as δ C σ H v r} {Q : V → Hp → Prop}, StOk kx.K Fr R as δ C σ H → PRes kx.K Fr R as H v r → Post kx (PW' kx.K) Fr R as δ σ Q ((fun r => bnd (resD r) fun d => ret (.d d)) r δ C) → Q v H := fun {Fr R as δ C σ H v r Q} S p h => by
                          refine res_d S p ?_
                          have h : Post kx (PW' kx.K) Fr R as δ σ Q (bnd (resD r) (fun d => ret (.d d)) δ C) := h
                          unfold bnd at h
                          cases e : resD r δ C with
                          | none => rw [e] at h; exact h.elim
                          | some o =>
                            rw [e] at h
                            cases o with
                            | exc _ _ _ => exact h
                            | ok x C' => exact fun R' as' b H' g S' p' => h R' as' b H' g S' p'
                        have z := ds_setLc (spos := pos) (rw := fun r => bnd (resD r) fun d => ret (.d d)) c.calm c.nd (ih.i tg iter c) bo hix (fun s H C cl fp => (cG_ok (cb s H C cl fp) n).1 hg) (fun s H C cl fp => ih.f ifs (cb s H C cl fp)) (fun s H C cl fp => dd_of (ih.e elt (cb s H C cl fp))) (set_ok h3 _) hN hl q w
                        unfold aDW
                        rw [bnd_assoc]
                        exact z
                    · simp only [if_neg hx]; split <;> exact ds_stuck
                · simp only [if_neg h]; split <;> exact ds_stuck
        | _ => exact ds_set c.nd hN s1 (dv_ok c) (swap_ok rfl _ _ _) s2
    · exact ds_stuck
  | Tuple ts k p =>
    simp only []
    split
    · rename_i x px y py a b k2 p2
      cases hi : ixOf Γ.N x with
      | none => exact ds_stuck
      | some i =>
        cases hj : ixOf Γ.N y with
        | none => exact ds_stuck
        | some j =>
          simp only []
          split
          · rename_i h
            unfold parOk at h
            simp only [Bool.and_eq_true, decide_eq_true_eq, Bool.not_eq_true'] at h
            obtain ⟨h1, h2, h3, h4, h5, h6, h7, h8⟩ := h
            have n1 := ixOf_ok hi
            have n2 := ixOf_ok hj
            refine ds_par c.calm c.nd (by rw [c.hN]; exact n1) (by rw [c.hN]; exact n2) (fun z => h4 ?_) (c.loc x h1) (c.loc y h2) ((snd n).w _ _ c (by simp [h5, h6])) (par_ok c.kind (c.loc x h1) (c.loc y h2) h3 h4 h5 h6 h7 h8)
            subst z
            rw [n1] at n2
            exact Option.some.inj n2
          · exact ds_stuck
    · split
      · rename_i h
        cases hg : cG n Γ (.Tuple ts k p) with
        | none => exact ds_stuck
        | some r =>
          obtain ⟨ix, t⟩ := r
          exact ds_unp (dd_of ((snd n).e e c)) ((cG_ok c n).1 hg) rfl (sole_ok h.2 _ _ _) (stores_ok h.1 _ _)
      · exact ds_stuck
  | Subscript o i p =>
    simp only []
    split
    · rename_i h
      exact ds_setIx (dd_of ((snd n).e e c)) ((snd n).e o c) (dd_of ((snd n).e i c)) (sub_ok h.2.2 _ _) (sole_ok h.2.1 _ _ _) (stores_ok h.1 _ _)
    · exact ds_stuck
  | _ => exact ds_stuck
theorem cS_ok (c : CtxOk Γ X kx) : ∀ n : Nat, (∀ {st : Stmt}, DS X kx st (cS n Γ st)) ∧ (∀ {sts : List Stmt}, DSs X kx sts (cSs n Γ sts))
  | 0 => ⟨(by unfold cS; exact ds_stuck), (by unfold cSs; exact dss_stuck)⟩
  | n + 1 => by
    obtain ⟨ih1, ih2⟩ := cS_ok c n
    refine ⟨fun {st} => ?_, fun {sts} => ?_⟩
    · unfold cS
      cases st with
      | Expr e p =>
        simp only []
        split
        · rename_i h; exact ds_expr ((snd n).e e c) (swap_ok h _ _ _)
        · exact ds_stuck
      | Return e p =>
        cases e with
        | none => exact ds_retN
        | some e =>
          simp only []
          split
          · exact ds_ret ((snd n).e e c)
          · exact ds_retD (dd_of ((snd n).e e c))
      | Pass p => exact ds_pass
      | Break p => exact ds_break
      | Continue p => exact ds_continue
      | If t a b p => exact ds_if ((snd n).t t c) ih2 ih2
      | For tg it body els p =>
        cases els with
        | cons _ _ => exact ds_stuck
        | nil =>
          cases hg : cG n Γ tg with
          | none => simp only [hg]; exact ds_stuck
          | some r =>
            obtain ⟨ix, t⟩ := r
            simp only [hg]
            split
            · rename_i h; exact ds_for c.po c.calm ((snd n).i tg it c) ((cG_ok c n).1 hg) ih2 (set_ok h _)
            · exact ds_stuck
      | While t body els p =>
        cases els with
        | cons _ _ => exact ds_stuck
        | nil => exact ds_while c.po ((snd n).t t c) ih2
      | Assign ts e p =>
        match ts with
        | [] => exact ds_stuck
        | [t] => exact ds_asg c
        | _ :: _ :: _ => exact ds_stuck
      | _ => exact ds_stuck
    · unfold cSs
      cases sts with
      | nil => exact dss_nil
      | cons st sts => exact dss_cons ih1 ih2
end
/-- a def of the text, in its context -/
def defFn (d : Stmt) (N ps : List Str) (fns : List (Str × Fn × List Bool)) (gstr : List (Str × Str)) (free cells : List Str) (new : Bool) : Fn :=
  mkFn ps.length N.length (cSs 200 ⟨N, defScope d, fns, gstr, free, cells, new⟩ (defBody d))
theorem def_ok {P : Program} {w : World} {K : PySem.W.Frag} {mg : Str → Option Value} {base : Heap} {XR : Hp → Hp → Value → Option Addr → Exn → Prop} {k : Nat} {f : Addr} {fd : FuncData} {name qual : Str} {d : Stmt} {N ps : List Str}
    {fns : List (Str × Fn × List Bool)} {gstr : List (Str × Str)} {free cells : List Str} {new : Bool} (F : FunD K name qual (defArgs d) (defBody d) (defScope d) [] [] f fd) (S : FnScope N ps (defScope d))
    (hf : ∀ x F fl, fns.lookup x = some (F, fl) → ∃ (f : Addr) (fd : FuncData) (ps : List Str), FnOk P w K mg base (L2.CX P w) k f fd ps (SpF K XR F) ∧ mg x = some (.ref f) ∧ PySem.W.keepIn K (.ref f) = true ∧ Binds K fd ps [])
    (hs : ∀ x z, gstr.lookup x = some z → ∃ t, mg x = some (.str z t)) (hfree : ∀ x ∈ free, mg x = none) :
    FnOk P w K mg base (L2.CX P w) (k + 1) f fd ps (SpF K XR (defFn d N ps fns gstr free cells new)) :=
  fn_ok F S fun cdv A outer s0 H E hr => (cS_ok (ctx_body S (fun x F fl h => let ⟨f, fd, ps, h1, h2, h3, h4⟩ := hf x F fl h; ⟨k, f, fd, ps, h1, hr, h2, h3, h4⟩) hs hfree) 200).2
end FL

/-! part W1 -/
set_option maxRecDepth 100000
/-! FL, part w: what a function of a text gives, said by a wish. -/
namespace FL
open PySem PySem.Spec PyProof.Rows
def Yp {α : Type} (o : Option (Out α)) (Q : α → Store → Prop) : Prop := match o with
  | some (.ok x C) => Q x C
  | _ => False
inductive All2 {α β : Type} (P : α → β → Prop) : List α → List β → Prop
  | nil : All2 P [] []
  | cons {a : α} {b : β} {as : List α} {bs : List β} : P a b → All2 P as bs → All2 P (a :: as) (b :: bs)
def Op {α : Type} (o : Option α) (Q : α → Prop) : Prop := match o with
  | some x => Q x
  | none => False
def Bp (b : Bool) (P R : Prop) : Prop := match b with
  | true => P
  | false => R
theorem oq_some {α : Type} {x : α} {Q : α → Prop} : Op (some x) Q ↔ Q x := Iff.rfl
theorem oq_none {α : Type} {Q : α → Prop} : Op none Q ↔ False := Iff.rfl
theorem bp_true {P R : Prop} : Bp true P R ↔ P := Iff.rfl
theorem bp_false {P R : Prop} : Bp false P R ↔ R := Iff.rfl
theorem oq_ex {α : Type} {o : Option α} {Q : α → Prop} : Op o Q ↔ ∃ x, o = some x ∧ Q x := by
  cases o <;> simp [Op]
theorem oq_ex' {α : Type} {o : Option α} {Q : α → Prop} : (∃ x, o = some x ∧ Q x) ↔ Op o Q := oq_ex.symm
theorem bp_and {b : Bool} {P R : Prop} : Bp b P R ↔ (b = true → P) ∧ (b = false → R) := by
  cases b <;> simp [Bp]
def asB : D → Option Bool
  | .bl b => some b
  | _ => none
@[simp] theorem asB_bl {b : Bool} : asB (.bl b) = some b := rfl
@[simp] theorem asI_int {b : Int} : asI (.int b) = some b := rfl
theorem oq_bl {d : D} {Q : Bool → Prop} : (∃ b, d = .bl b ∧ Q b) ↔ Op (asB d) Q := by
  cases d <;> simp [Op, asB]
theorem oq_int {d : D} {Q : Int → Prop} : (∃ b, d = .int b ∧ Q b) ↔ Op (asI d) Q := by
  cases d <;> simp [Op, asI]
theorem oq_w {o : Option (Option W)} {Q : W → Prop} : (∃ w, o = some (some w) ∧ Q w) ↔ Op o fun o => Op o Q := by
  match o with
  | none => simp [Op]
  | some none => simp [Op]
  | some (some w) => simp [Op]
section
variable {α β : Type} {δ : Slots} {C : Store}
theorem yp_ok {x : α} {Q : α → Store → Prop} : Yp (some (.ok x C)) Q ↔ Q x C := Iff.rfl
theorem yp_none {Q : α → Store → Prop} : Yp none Q ↔ False := Iff.rfl
theorem yp_mono {o : Option (Out α)} {P Q : α → Store → Prop} (h : Yp o P) (w : ∀ x C, P x C → Q x C) : Yp o Q := by
  match o, h with
  | some (.ok x C), h => exact w x C h
theorem yp_iff {o : Option (Out α)} {P Q : α → Store → Prop} (w : ∀ x C, P x C ↔ Q x C) : Yp o P ↔ Yp o Q := ⟨fun h => yp_mono h fun x C => (w x C).mp, fun h => yp_mono h fun x C => (w x C).mpr⟩
theorem yp_eq {o : Option (Out α)} {a : α} {D : Store} : (Yp o fun x C => x = a ∧ C = D) ↔ o = some (.ok a D) := by
  constructor
  · intro h
    match o, h with
    | some (.ok x C), ⟨h1, h2⟩ => rw [h1, h2]
  · intro h; subst h; exact ⟨rfl, rfl⟩
theorem yp_ret {x : α} {Q : α → Store → Prop} : Yp (ret x δ C) Q ↔ Q x C := Iff.rfl
theorem yp_bnd {f : EF α} {g : α → EF β} {Q : β → Store → Prop} : Yp (bnd f g δ C) Q ↔ Yp (f δ C) fun x C' => Yp (g x δ C') Q := by
  unfold bnd
  match f δ C with
  | none => exact Iff.rfl
  | some (.exc _ _ _) => exact Iff.rfl
  | some (.ok _ _) => exact Iff.rfl
theorem yp_opt {o : Option α} {Q : α → Store → Prop} : Yp (opt o δ C) Q ↔ Op (o) fun x => Q x C := by
  rw [oq_ex]
  unfold opt
  cases o with
  | none => simp [Yp]
  | some x => simp [Yp]
theorem yp_look {r : Res} {Q : Vw → Store → Prop} : Yp (fLook r δ C) Q ↔ Op (look r C) fun v => Q v C := by
  rw [oq_ex]
  unfold fLook
  cases look r C with
  | none => simp [Yp]
  | some x => simp [Yp]
@[simp] theorem look_d {x : D} : look (rd x) C = some (lookD x) := rfl
@[simp] theorem look_l {ds : List D} : look (.new (.lst ds)) C = some (.lst ds) := rfl
@[simp] theorem look_k {ds : List (L2.Key × D)} : look (.new (.dct ds)) C = some (.dct ds) := rfl
@[simp] theorem look_c {i : Nat} : look (.w (.c i)) C = C[i]?.map lookC := rfl
theorem yp_resD {x : D} {Q : D → Store → Prop} : Yp (resD (rd x) δ C) Q ↔ Q x C := Iff.rfl
theorem yp_resDl {ds : List D} {Q : D → Store → Prop} : Yp (resD (.new (.lst ds)) δ C) Q ↔ Q (.lst ds) C := Iff.rfl
theorem yp_resW {x : W} {Q : W → Store → Prop} : Yp (resW (.w x) δ C) Q ↔ Q x C := Iff.rfl
theorem yp_resWn {c : Cell} {Q : W → Store → Prop} : Yp (resW (.new c) δ C) Q ↔ Q (.c C.length) (C ++ [c]) := Iff.rfl
theorem yp_resF {x : W} {Q : W → Store → Prop} : Yp (resF (.w x) δ C) Q ↔ Q x C := Iff.rfl
theorem yp_resFl {ds : List D} {Q : W → Store → Prop} : Yp (resF (.new (.lst ds)) δ C) Q ↔ Q (.d (.lst ds)) C := Iff.rfl
theorem yp_var_ {i : Nat} {Q : Res → Store → Prop} : Yp (fVar i δ C) Q ↔ ∃ w, δ[i]? = some (some w) ∧ Q (.w w) C := by
  unfold fVar
  match h : δ[i]? with
  | none => simp [Yp]
  | some none => simp [Yp]
  | some (some w) => simp [Yp]
theorem yp_var {i : Nat} {Q : Res → Store → Prop} : Yp (fVar i δ C) Q ↔ Op (δ[i]?) fun o => Op o fun w => Q (.w w) C := by
  rw [yp_var_]
  first | simp only [bp_and, oq_bl, oq_int, oq_w] | simp only [oq_ex]
theorem yp_call {F : Fn} {fs : EF (List W)} {Q : Res → Store → Prop} : Yp (fCall F fs δ C) Q ↔ Yp (fs δ C) fun ws C' => ws.length = F.arity ∧ Yp (F.run ws C') Q := by
  unfold fCall
  rw [yp_bnd]
  refine yp_iff fun ws C' => ?_
  by_cases h : ws.length = F.arity
  · rw [if_pos h]
    match F.run ws C' with
    | none => simp [Yp]
    | some (.exc _ _ _) => simp [Yp]
    | some (.ok _ _) => simp [Yp, h]
  · rw [if_neg h]; simp [Yp, h]
theorem yp_seq {s t : SF} {Q : Fl → Store → Prop} : Yp (fSeq s t δ C) Q ↔ Yp (s δ C) fun fl C' => match fl with
    | .nx δ' => Yp (t δ' C') Q
    | x => Q x C' := by
  unfold fSeq
  match s δ C with
  | none => exact Iff.rfl
  | some (.exc _ _ _) => exact Iff.rfl
  | some (.ok (.nx _) _) => exact Iff.rfl
  | some (.ok (.rt _) _) => exact Iff.rfl
  | some (.ok (.bk _) _) => exact Iff.rfl
  | some (.ok (.ct _) _) => exact Iff.rfl
theorem yp_next {Q : Fl → Store → Prop} : Yp (fNext δ C) Q ↔ Q (.nx δ) C := Iff.rfl
theorem yp_if_ {c : EF Bool} {s t : SF} {Q : Fl → Store → Prop} : Yp (fIf c s t δ C) Q ↔ Yp (c δ C) fun b C' => (b = true → Yp (s δ C') Q) ∧ (b = false → Yp (t δ C') Q) := by
  unfold fIf
  rw [yp_bnd]
  refine yp_iff fun b C' => ?_
  cases b <;> simp
theorem yp_if {c : EF Bool} {s t : SF} {Q : Fl → Store → Prop} : Yp (fIf c s t δ C) Q ↔ Yp (c δ C) fun b C' => Bp b (Yp (s δ C') Q) (Yp (t δ C') Q) := by
  rw [yp_if_]
  first | simp only [bp_and, oq_bl, oq_int, oq_w] | simp only [oq_ex]
theorem yp_ite_ {c : EF Bool} {s t : EF α} {Q : α → Store → Prop} : Yp (fIte c s t δ C) Q ↔ Yp (c δ C) fun b C' => (b = true → Yp (s δ C') Q) ∧ (b = false → Yp (t δ C') Q) := by
  unfold fIte
  rw [yp_bnd]
  refine yp_iff fun b C' => ?_
  cases b <;> simp
theorem yp_ite {c : EF Bool} {s t : EF α} {Q : α → Store → Prop} : Yp (fIte c s t δ C) Q ↔ Yp (c δ C) fun b C' => Bp b (Yp (s δ C') Q) (Yp (t δ C') Q) := by
  rw [yp_ite_]
  first | simp only [bp_and, oq_bl, oq_int, oq_w] | simp only [oq_ex]
theorem yp_andT_ {f g : EF Bool} {Q : Bool → Store → Prop} : Yp (fAndT f g δ C) Q ↔ Yp (f δ C) fun b C' => (b = true → Yp (g δ C') Q) ∧ (b = false → Q false C') := by
  unfold fAndT
  rw [yp_bnd]
  refine yp_iff fun b C' => ?_
  cases b <;> simp [yp_ret]
theorem yp_andT {f g : EF Bool} {Q : Bool → Store → Prop} : Yp (fAndT f g δ C) Q ↔ Yp (f δ C) fun b C' => Bp b (Yp (g δ C') Q) (Q false C') := by
  rw [yp_andT_]
  first | simp only [bp_and, oq_bl, oq_int, oq_w] | simp only [oq_ex]
theorem yp_orT_ {f g : EF Bool} {Q : Bool → Store → Prop} : Yp (fOrT f g δ C) Q ↔ Yp (f δ C) fun b C' => (b = true → Q true C') ∧ (b = false → Yp (g δ C') Q) := by
  unfold fOrT
  rw [yp_bnd]
  refine yp_iff fun b C' => ?_
  cases b <;> simp [yp_ret]
theorem yp_orT {f g : EF Bool} {Q : Bool → Store → Prop} : Yp (fOrT f g δ C) Q ↔ Yp (f δ C) fun b C' => Bp b (Q true C') (Yp (g δ C') Q) := by
  rw [yp_orT_]
  first | simp only [bp_and, oq_bl, oq_int, oq_w] | simp only [oq_ex]
theorem yp_andV_ {f : EF D} {g : EF Res} {Q : Res → Store → Prop} : Yp (fAndV f g δ C) Q ↔ Yp (f δ C) fun d C' => ∃ b, d = .bl b ∧ (b = true → Yp (g δ C') Q) ∧ (b = false → Q (rd (.bl false)) C') := by
  unfold fAndV
  rw [yp_bnd]
  refine yp_iff fun d C' => ?_
  cases d with
  | bl b => cases b <;> simp [yp_ret]
  | _ => simp [Yp, stuck]
theorem yp_andV {f : EF D} {g : EF Res} {Q : Res → Store → Prop} : Yp (fAndV f g δ C) Q ↔ Yp (f δ C) fun d C' => Op (asB d) fun b => Bp b (Yp (g δ C') Q) (Q (rd (.bl false)) C') := by
  rw [yp_andV_]
  first | simp only [bp_and, oq_bl, oq_int, oq_w] | simp only [oq_ex]
theorem yp_orV_ {f : EF D} {g : EF Res} {Q : Res → Store → Prop} : Yp (fOrV f g δ C) Q ↔ Yp (f δ C) fun d C' => ∃ b, d = .bl b ∧ (b = true → Q (rd (.bl true)) C') ∧ (b = false → Yp (g δ C') Q) := by
  unfold fOrV
  rw [yp_bnd]
  refine yp_iff fun d C' => ?_
  cases d with
  | bl b => cases b <;> simp [yp_ret]
  | _ => simp [Yp, stuck]
theorem yp_orV {f : EF D} {g : EF Res} {Q : Res → Store → Prop} : Yp (fOrV f g δ C) Q ↔ Yp (f δ C) fun d C' => Op (asB d) fun b => Bp b (Q (rd (.bl true)) C') (Yp (g δ C') Q) := by
  rw [yp_orV_]
  first | simp only [bp_and, oq_bl, oq_int, oq_w] | simp only [oq_ex]
theorem yp_notV_ {f : EF D} {Q : Res → Store → Prop} : Yp (fNotV f δ C) Q ↔ Yp (f δ C) fun d C' => ∃ b, d = .bl b ∧ Q (rd (.bl (!b))) C' := by
  unfold fNotV
  rw [yp_bnd]
  refine yp_iff fun d C' => ?_
  cases d with
  | bl b => cases b <;> simp [yp_ret]
  | _ => simp [Yp, stuck]
theorem yp_notV {f : EF D} {Q : Res → Store → Prop} : Yp (fNotV f δ C) Q ↔ Yp (f δ C) fun d C' => Op (asB d) fun b => Q (rd (.bl (!b))) C' := by
  rw [yp_notV_]
  first | simp only [bp_and, oq_bl, oq_int, oq_w] | simp only [oq_ex]
theorem yp_notT {f : EF Bool} {Q : Bool → Store → Prop} : Yp (fNotT f δ C) Q ↔ Yp (f δ C) fun b C' => Q (!b) C' := by
  unfold fNotT
  rw [yp_bnd]
  exact Iff.rfl
theorem yp_neg_ {f : EF D} {Q : Res → Store → Prop} : Yp (fNeg f δ C) Q ↔ Yp (f δ C) fun d C' => ∃ i, d = .int i ∧ Q (rd (.int (-i))) C' := by
  unfold fNeg
  rw [yp_bnd]
  refine yp_iff fun d C' => ?_
  cases d with
  | int i => simp [yp_ret]
  | _ => simp [Yp, stuck]
theorem yp_neg {f : EF D} {Q : Res → Store → Prop} : Yp (fNeg f δ C) Q ↔ Yp (f δ C) fun d C' => Op (asI d) fun i => Q (rd (.int (-i))) C' := by
  rw [yp_neg_]
  first | simp only [bp_and, oq_bl, oq_int, oq_w] | simp only [oq_ex]
theorem yp_op {g : D → D → Option Res} {f1 f2 : EF D} {Q : Res → Store → Prop} : Yp (fOp g f1 f2 δ C) Q ↔ Yp (f1 δ C) fun x C1 => Yp (f2 δ C1) fun y C2 => Op (g x y) fun r => Q r C2 := by
  unfold fOp
  simp only [yp_bnd, yp_opt]
theorem yp_cmp {g : D → D → Option Bool} {f1 f2 : EF D} {Q : Bool → Store → Prop} : Yp (fCmp g f1 f2 δ C) Q ↔ Yp (f1 δ C) fun x C1 => Yp (f2 δ C1) fun y C2 => Op (g x y) fun r => Q r C2 := by
  unfold fCmp
  simp only [yp_bnd, yp_opt]
theorem yp_chain {g g' : D → D → Option Bool} {f1 f2 f3 : EF D} {Q : Bool → Store → Prop} : Yp (fChain g g' f1 f2 f3 δ C) Q ↔ Yp (f1 δ C) fun x C1 => Yp (f2 δ C1) fun y C2 => Op (g x y) fun r => Bp r (Yp (f3 δ C2) fun z C3 => Op (g' y z) fun r' => Q r' C3) (Q false C2) := by
  unfold fChain
  simp only [yp_bnd, yp_opt]
  refine yp_iff fun d C' => yp_iff fun y C2 => ?_
  cases g d y with
  | none => exact Iff.rfl
  | some b =>
    cases b with
    | true => simp only [oq_some, bp_true, yp_bnd, yp_opt]
    | false => exact Iff.rfl
theorem yp_b {f : EF Bool} {Q : Res → Store → Prop} : Yp (fB f δ C) Q ↔ Yp (f δ C) fun b C' => Q (rd (.bl b)) C' := by
  unfold fB
  rw [yp_bnd]
  exact Iff.rfl
theorem yp_isN {neg : Bool} {f : EF Res} {Q : Bool → Store → Prop} : Yp (fIsN neg f δ C) Q ↔ Yp (f δ C) fun r C' => Op (look r C') fun v => Q (if neg then !FL.isNon v else FL.isNon v) C' := by
  unfold fIsN
  simp only [yp_bnd, yp_look, yp_ret]
theorem yp_in {neg : Bool} {f1 : EF D} {f2 : EF Res} {Q : Bool → Store → Prop} : Yp (fIn neg f1 f2 δ C) Q ↔ Yp (f1 δ C) fun x C1 => Yp (f2 δ C1) fun r C2 => Op (look r C2) fun v => Op (inF x v) fun b => Q (if neg then !b else b) C2 := by
  unfold fIn
  simp only [yp_bnd, yp_look, yp_ret, yp_opt]
theorem yp_tru {f : EF Res} {Q : Bool → Store → Prop} : Yp (fTru f δ C) Q ↔ Yp (f δ C) fun r C' => Op (look r C') fun v => Op (truF v) fun b => Q b C' := by
  unfold fTru
  simp only [yp_bnd, yp_look, yp_opt]
theorem yp_ix {f1 : EF Res} {f2 : EF D} {Q : Res → Store → Prop} : Yp (fIx f1 f2 δ C) Q ↔ Yp (f1 δ C) fun r C1 => Yp (resF r δ C1) fun w C2 => Yp (f2 δ C2) fun y C3 => Op (look (.w w) C3) fun v => Op (ixF v y) fun r => Q r C3 := by
  unfold fIx
  simp only [yp_bnd, yp_look, yp_opt]
theorem yp_part_ {f : EF D} {Q : Option Int → Store → Prop} : Yp (fPart f δ C) Q ↔ Yp (f δ C) fun d C' => ∃ i, d = .int i ∧ Q (some i) C' := by
  unfold fPart
  simp only [yp_bnd, yp_opt, yp_ret]
  refine yp_iff fun d C' => ?_
  cases d <;> simp [asI, Op]
theorem yp_part {f : EF D} {Q : Option Int → Store → Prop} : Yp (fPart f δ C) Q ↔ Yp (f δ C) fun d C' => Op (asI d) fun i => Q (some i) C' := by
  rw [yp_part_]
  first | simp only [bp_and, oq_bl, oq_int, oq_w] | simp only [oq_ex]
theorem yp_sl {f1 : EF Res} {f2 f3 : EF (Option Int)} {Q : Res → Store → Prop} : Yp (fSl f1 f2 f3 δ C) Q ↔ Yp (f1 δ C) fun r C1 => Yp (resF r δ C1) fun w C2 => Yp (f2 δ C2) fun lo C3 => Yp (f3 δ C3) fun hi C4 => Op (look (.w w) C4) fun v => Op (slF v lo hi) fun r => Q r C4 := by
  unfold fSl
  simp only [yp_bnd, yp_look, yp_opt]
theorem yp_nil {Q : List α → Store → Prop} : Yp (fNil δ C) Q ↔ Q [] C := Iff.rfl
theorem yp_cons {f : EF α} {g : EF (List α)} {Q : List α → Store → Prop} : Yp (fCons f g δ C) Q ↔ Yp (f δ C) fun x C1 => Yp (g δ C1) fun xs C2 => Q (x :: xs) C2 := by
  unfold fCons
  simp only [yp_bnd, yp_ret]
theorem yp_tup {f : EF (List D)} {Q : Res → Store → Prop} : Yp (fTup f δ C) Q ↔ Yp (f δ C) fun ds C' => ds.length ≤ sizeLine ∧ Q (rd (.tup ds)) C' := by
  unfold fTup
  rw [yp_bnd]
  refine yp_iff fun d C' => ?_
  by_cases h' : sz d
  · rw [if_pos h']; exact ⟨fun q => ⟨h', q⟩, fun q => q.2⟩
  · rw [if_neg h']; exact ⟨fun q => q.elim, fun q => (h' q.1).elim⟩
theorem yp_lst {f : EF (List D)} {Q : Res → Store → Prop} : Yp (fLst f δ C) Q ↔ Yp (f δ C) fun ds C' => ds.length ≤ sizeLine ∧ Q (.new (.lst ds)) C' := by
  unfold fLst
  rw [yp_bnd]
  refine yp_iff fun d C' => ?_
  by_cases h' : sz d
  · rw [if_pos h']; exact ⟨fun q => ⟨h', q⟩, fun q => q.2⟩
  · rw [if_neg h']; exact ⟨fun q => q.elim, fun q => (h' q.1).elim⟩
theorem yp_call1 {g : Vw → Option Res} {f : EF Res} {Q : Res → Store → Prop} : Yp (fCall1 g f δ C) Q ↔ Yp (f δ C) fun r C' => Op (look r C') fun v => Op (g v) fun r => Q r C' := by
  unfold fCall1
  simp only [yp_bnd, yp_look, yp_opt]
theorem yp_isi {ns : List String} {f : EF Res} {Q : Res → Store → Prop} : Yp (fIsi ns f δ C) Q ↔ Yp (f δ C) fun r C1 => Yp (resF r δ C1) fun w C2 => Op (look (.w w) C2) fun v => Q (rd (.bl (ns.any fun n => isT (tyN v) n))) C2 := by
  unfold fIsi
  simp only [yp_bnd, yp_look, yp_ret]
theorem yp_expr {f : EF Res} {Q : Fl → Store → Prop} : Yp (fExpr f δ C) Q ↔ Yp (f δ C) fun _ C' => Q (.nx δ) C' := by
  unfold fExpr
  rw [yp_bnd]
  exact Iff.rfl
theorem yp_fret {f : EF Res} {Q : Fl → Store → Prop} : Yp (fRet f δ C) Q ↔ Yp (f δ C) fun r C' => Q (.rt r) C' := by
  unfold fRet
  rw [yp_bnd]
  exact Iff.rfl
theorem yp_retD {f : EF D} {Q : Fl → Store → Prop} : Yp (fRetD f δ C) Q ↔ Yp (f δ C) fun d C' => Q (.rt (rd d)) C' := by
  unfold fRetD
  rw [yp_bnd]
  exact Iff.rfl
theorem yp_set {f : EF W} {i : Nat} {Q : Fl → Store → Prop} : Yp (fSet f i δ C) Q ↔ Yp (f δ C) fun w C' => Q (.nx (δ.set i (some w))) C' := by
  unfold fSet
  rw [yp_bnd]
  exact Iff.rfl
def two : List W → Option (W × W)
  | [a, b] => some (a, b)
  | _ => none
@[simp] theorem two_ab {a b : W} : two [a, b] = some (a, b) := rfl
theorem yp_par {f : EF (List W)} {i j : Nat} {Q : Fl → Store → Prop} : Yp (fPar f i j δ C) Q ↔ Yp (f δ C) fun ws C' => Op (two ws) fun p => Q (.nx ((δ.set i (some p.1)).set j (some p.2))) C' := by
  unfold fPar
  rw [yp_bnd]
  refine yp_iff fun ws C' => ?_
  match ws with
  | [] => exact Iff.rfl
  | [_] => exact Iff.rfl
  | [x, y] => exact Iff.rfl
  | _ :: _ :: _ :: _ => exact Iff.rfl
theorem yp_unp_ {f : EF D} {t : TF} {Q : Fl → Store → Prop} : Yp (fUnp f t δ C) Q ↔ Yp (f δ C) fun d C' => ∃ δ', t d δ = some δ' ∧ Q (.nx δ') C' := by
  unfold fUnp
  rw [yp_bnd]
  refine yp_iff fun d C' => ?_
  cases t d δ <;> simp [Yp]
theorem yp_unp {f : EF D} {t : TF} {Q : Fl → Store → Prop} : Yp (fUnp f t δ C) Q ↔ Yp (f δ C) fun d C' => Op (t d δ) fun δ' => Q (.nx δ') C' := by
  rw [yp_unp_]
  first | simp only [bp_and, oq_bl, oq_int, oq_w] | simp only [oq_ex]
theorem yp_it {f : EF D} {Q : List D → Store → Prop} : Yp (fIt f δ C) Q ↔ Yp (f δ C) fun d C' => Op (itD d) fun ds => Q ds C' := by
  unfold fIt
  simp only [yp_bnd, yp_opt]
theorem yp_rng1 {f : EF D} {Q : List D → Store → Prop} : Yp (fRng1 f δ C) Q ↔ Yp (f δ C) fun d C' => Op (asI d) fun i => inR i ∧ i.toNat ≤ sizeLine ∧ Q (rngD 0 i) C' := by
  unfold fRng1
  simp only [yp_bnd, yp_opt]
  refine yp_iff fun d C' => ?_
  cases asI d with
  | none => exact Iff.rfl
  | some i =>
    simp only [oq_some]
    by_cases h : inR i ∧ i.toNat ≤ sizeLine
    · rw [if_pos h]; exact ⟨fun q => ⟨h.1, h.2, q⟩, fun q => q.2.2⟩
    · rw [if_neg h]; exact ⟨fun q => q.elim, fun q => (h ⟨q.1, q.2.1⟩).elim⟩
theorem yp_enum {f : EF D} {Q : List D → Store → Prop} : Yp (fEnum f δ C) Q ↔ Yp (f δ C) fun d C' => Op (listD d) fun ds => Q (enD ds) C' := by
  unfold fEnum
  simp only [yp_bnd, yp_opt, yp_ret]
theorem yp_zipl {f g : EF D} {Q : List D → Store → Prop} : (Yp (f δ C) fun x C1 => Yp (g δ C1) fun y C2 => ∃ xs ys, x = .lst xs ∧ y = .lst ys ∧ Q (zipD xs ys) C2) → Yp (fZip f g δ C) Q := by
  intro h
  unfold fZip
  simp only [yp_bnd]
  refine yp_mono h fun x C1 h => yp_mono h fun y C2 h => ?_
  obtain ⟨xs, ys, rfl, rfl, h⟩ := h
  exact h
def Lp {β : Type} (o : Option (β × Store)) (Q : β → Store → Prop) : Prop := match o with
  | some (x, C) => Q x C
  | none => False
theorem lp_some {β : Type} {x : β} {Q : β → Store → Prop} : Lp (some (x, C)) Q ↔ Q x C := Iff.rfl
theorem lp_mono {β : Type} {o : Option (β × Store)} {P Q : β → Store → Prop} (h : Lp o P) (w : ∀ x C, P x C → Q x C) : Lp o Q := by
  match o, h with
  | some (x, C), h => exact w x C h
theorem yp_lc {f : EF (List D)} {own : List Nat} {t : TF} {c : EF Bool} {e : EF D} {Q : Res → Store → Prop} : Yp (fLC f own t c e δ C) Q ↔ Yp (f δ C) fun ds C' => Lp (compL own t c e ds δ C') fun ys C2 => Q (.new (.lst ys)) C2 := by
  unfold fLC
  rw [yp_bnd]
  refine yp_iff fun ds C' => ?_
  match h : compL own t c e ds δ C' with
  | none => exact Iff.rfl
  | some (acc, C2) => exact Iff.rfl
theorem yp_dc {f : EF (List D)} {own : List Nat} {t : TF} {c : EF Bool} {e v : EF D} {Q : Res → Store → Prop} : Yp (fDC f own t c e v δ C) Q ↔ Yp (f δ C) fun ds C' => Lp (compDC own t c e v ds δ C' []) fun ys C2 => Q (.new (.dct ys)) C2 := by
  unfold fDC
  rw [yp_bnd]
  refine yp_iff fun ds C' => ?_
  match h : compDC own t c e v ds δ C' [] with
  | none => exact Iff.rfl
  | some (acc, C2) => exact Iff.rfl
theorem yp_for {f : EF (List D)} {t : TF} {b : SF} {Q : Fl → Store → Prop} : Yp (fFor f t b δ C) Q ↔ Yp (f δ C) fun ds C' => Yp (loopF t b ds δ C') Q := by
  unfold fFor
  rw [yp_bnd]
theorem yp_str {z : Str} {Q : Res → Store → Prop} : Yp (fStr z δ C) Q ↔ Q (rd (.str z)) C := Iff.rfl
theorem yp_setIx {fe fi : EF D} {fo : EF Res} {Q : Fl → Store → Prop} : (Yp (fe δ C) fun d C1 => Yp (fo δ C1) fun r C2 => Yp (fi δ C2) fun y C3 => ∃ i k ds j, r = .w (.c i) ∧ y = .int k ∧ C3[i]? = some (.lst ds) ∧ L2.ixN ds.length k = some j ∧ Q (.nx δ) (C3.set i (.lst (ds.set j d)))) → Yp (fSetIx fe fo fi δ C) Q := by
  intro h
  unfold fSetIx
  simp only [yp_bnd]
  refine yp_mono h fun d C1 h => yp_mono h fun r C2 h => ?_
  have q : ∃ i, r = .w (.c i) := by
    match hh : fi δ C2 with
    | some (.ok y C3) => rw [hh] at h; obtain ⟨i, _, _, _, q, _⟩ := h; exact ⟨i, q⟩
    | none => rw [hh] at h; exact h.elim
    | some (.exc _ _ _) => rw [hh] at h; exact h.elim
  obtain ⟨i, rfl⟩ := q
  rw [yp_resF]
  refine yp_mono h fun y C3 h => ?_
  obtain ⟨i', k, ds, j, h1, h2, h3, h4, h5⟩ := h
  cases h1
  subst h2
  simp only [cellL, h3, yp_ok, yp_opt, asI, oq_some, h4, putL]
  exact h5
@[simp] theorem run_mk {ar N : Nat} {b : SF} {ws : List W} : (mkFn ar N b).run ws C = finish C.length (b (slots0 N ws) C) := rfl
theorem yp_finish {n : Nat} {o : Option (Out Fl)} {Q : Res → Store → Prop} : Yp (FL.finish n o) Q ↔ Yp o fun fl C' => match fl with
    | .rt r => Yp (fin n r C') Q
    | .nx _ => Q (rd .non) (C'.take n)
    | _ => False := by
  match o with
  | none => exact Iff.rfl
  | some (.exc _ _ _) => exact Iff.rfl
  | some (.ok (.nx _) _) => exact Iff.rfl
  | some (.ok (.rt _) _) => exact Iff.rfl
  | some (.ok (.bk _) _) => exact Iff.rfl
  | some (.ok (.ct _) _) => exact Iff.rfl
theorem yp_fin {n : Nat} {x : D} {Q : Res → Store → Prop} : Yp (fin n (rd x) C) Q ↔ Q (rd x) (C.take n) := Iff.rfl
theorem yp_finN {n : Nat} {c : Cell} {Q : Res → Store → Prop} : Yp (fin n (.new c) C) Q ↔ Q (.new c) (C.take n) := Iff.rfl
end
inductive Tg {α : Type} (Q : α → Store → Prop) : Type where
  | mk
inductive TgO {α : Type} (Q : α → Prop) : Type where
  | mk
inductive TgP (P : Prop) : Type where
  | mk
/-- the same; the tag keeps a rewriting off the wish -/
def Yd {α : Type} (o : Option (Out α)) (Q : α → Store → Prop) (_ : Tg Q := .mk) : Prop := Yp o Q
def Od {α : Type} (o : Option α) (Q : α → Prop) (_ : TgO Q := .mk) : Prop := Op o Q
def Bd (b : Bool) (P R : Prop) (_ : TgP P := .mk) (_ : TgP R := .mk) : Prop := Bp b P R
def Lc {β : Type} (o : Option (β × Store)) (Q : β → Store → Prop) (_ : Tg Q := .mk) : Prop := Lp o Q
@[simp ↓] theorem od_some {α : Type} {x : α} {Q : α → Prop} : Od (some x) Q ↔ Q x := oq_some 
@[simp ↓] theorem od_none {α : Type} {Q : α → Prop} : Od none Q ↔ False := oq_none 
@[simp ↓] theorem bd_true {P R : Prop} : Bd true P R ↔ P := bp_true 
@[simp ↓] theorem bd_false {P R : Prop} : Bd false P R ↔ R := bp_false 
theorem od_ex {α : Type} {o : Option α} {Q : α → Prop} : Od o Q ↔ ∃ x, o = some x ∧ Q x := oq_ex 
theorem bd_and {b : Bool} {P R : Prop} : Bd b P R ↔ (b = true → P) ∧ (b = false → R) := bp_and 
theorem od_bl {d : D} {Q : Bool → Prop} : (∃ b, d = .bl b ∧ Q b) ↔ Od (asB d) Q := oq_bl 
theorem od_int {d : D} {Q : Int → Prop} : (∃ b, d = .int b ∧ Q b) ↔ Od (asI d) Q := oq_int 
theorem od_w {o : Option (Option W)} {Q : W → Prop} : (∃ w, o = some (some w) ∧ Q w) ↔ Od o fun o => Od o Q := oq_w 
section
variable {α β : Type} {δ : Slots} {C : Store}
@[simp ↓] theorem yd_ok {x : α} {Q : α → Store → Prop} : Yd (some (.ok x C)) Q ↔ Q x C := yp_ok 
@[simp ↓] theorem yd_none {Q : α → Store → Prop} : Yd none Q ↔ False := yp_none 
theorem yd_mono {o : Option (Out α)} {P Q : α → Store → Prop} (h : Yd o P) (w : ∀ x C, P x C → Q x C) : Yd o Q := yp_mono h w
theorem yd_iff {o : Option (Out α)} {P Q : α → Store → Prop} (w : ∀ x C, P x C ↔ Q x C) : Yd o P ↔ Yd o Q := yp_iff w
theorem yd_eq {o : Option (Out α)} {a : α} {D : Store} : (Yd o fun x C => x = a ∧ C = D) ↔ o = some (.ok a D) := yp_eq 
@[simp ↓] theorem yd_ret {x : α} {Q : α → Store → Prop} : Yd (ret x δ C) Q ↔ Q x C := yp_ret 
@[simp ↓] theorem yd_bnd {f : EF α} {g : α → EF β} {Q : β → Store → Prop} : Yd (bnd f g δ C) Q ↔ Yd (f δ C) fun x C' => Yd (g x δ C') Q := yp_bnd 
@[simp ↓] theorem yd_opt {o : Option α} {Q : α → Store → Prop} : Yd (opt o δ C) Q ↔ Od (o) fun x => Q x C := yp_opt 
@[simp ↓] theorem yd_look {r : Res} {Q : Vw → Store → Prop} : Yd (fLook r δ C) Q ↔ Od (look r C) fun v => Q v C := yp_look 
@[simp ↓] theorem yd_resD {x : D} {Q : D → Store → Prop} : Yd (resD (rd x) δ C) Q ↔ Q x C := yp_resD 
@[simp ↓] theorem yd_resDl {ds : List D} {Q : D → Store → Prop} : Yd (resD (.new (.lst ds)) δ C) Q ↔ Q (.lst ds) C := yp_resDl 
@[simp ↓] theorem yd_resW {x : W} {Q : W → Store → Prop} : Yd (resW (.w x) δ C) Q ↔ Q x C := yp_resW 
@[simp ↓] theorem yd_resWn {c : Cell} {Q : W → Store → Prop} : Yd (resW (.new c) δ C) Q ↔ Q (.c C.length) (C ++ [c]) := yp_resWn 
@[simp ↓] theorem yd_resF {x : W} {Q : W → Store → Prop} : Yd (resF (.w x) δ C) Q ↔ Q x C := yp_resF 
@[simp ↓] theorem yd_resFl {ds : List D} {Q : W → Store → Prop} : Yd (resF (.new (.lst ds)) δ C) Q ↔ Q (.d (.lst ds)) C := yp_resFl 
@[simp ↓] theorem yd_var {i : Nat} {Q : Res → Store → Prop} : Yd (fVar i δ C) Q ↔ Od (δ[i]?) fun o => Od o fun w => Q (.w w) C := yp_var 
@[simp ↓] theorem yd_call {F : Fn} {fs : EF (List W)} {Q : Res → Store → Prop} : Yd (fCall F fs δ C) Q ↔ Yd (fs δ C) fun ws C' => ws.length = F.arity ∧ Yd (F.run ws C') Q := yp_call 
@[simp ↓] theorem yd_seq {s t : SF} {Q : Fl → Store → Prop} : Yd (fSeq s t δ C) Q ↔ Yd (s δ C) fun fl C' => match fl with
    | .nx δ' => Yd (t δ' C') Q
    | x => Q x C' := yp_seq 
@[simp ↓] theorem yd_next {Q : Fl → Store → Prop} : Yd (fNext δ C) Q ↔ Q (.nx δ) C := yp_next 
@[simp ↓] theorem yd_if {c : EF Bool} {s t : SF} {Q : Fl → Store → Prop} : Yd (fIf c s t δ C) Q ↔ Yd (c δ C) fun b C' => Bd b (Yd (s δ C') Q) (Yd (t δ C') Q) := yp_if 
@[simp ↓] theorem yd_ite {c : EF Bool} {s t : EF α} {Q : α → Store → Prop} : Yd (fIte c s t δ C) Q ↔ Yd (c δ C) fun b C' => Bd b (Yd (s δ C') Q) (Yd (t δ C') Q) := yp_ite 
@[simp ↓] theorem yd_andT {f g : EF Bool} {Q : Bool → Store → Prop} : Yd (fAndT f g δ C) Q ↔ Yd (f δ C) fun b C' => Bd b (Yd (g δ C') Q) (Q false C') := yp_andT 
@[simp ↓] theorem yd_orT {f g : EF Bool} {Q : Bool → Store → Prop} : Yd (fOrT f g δ C) Q ↔ Yd (f δ C) fun b C' => Bd b (Q true C') (Yd (g δ C') Q) := yp_orT 
@[simp ↓] theorem yd_andV {f : EF D} {g : EF Res} {Q : Res → Store → Prop} : Yd (fAndV f g δ C) Q ↔ Yd (f δ C) fun d C' => Od (asB d) fun b => Bd b (Yd (g δ C') Q) (Q (rd (.bl false)) C') := yp_andV 
@[simp ↓] theorem yd_orV {f : EF D} {g : EF Res} {Q : Res → Store → Prop} : Yd (fOrV f g δ C) Q ↔ Yd (f δ C) fun d C' => Od (asB d) fun b => Bd b (Q (rd (.bl true)) C') (Yd (g δ C') Q) := yp_orV 
@[simp ↓] theorem yd_notV {f : EF D} {Q : Res → Store → Prop} : Yd (fNotV f δ C) Q ↔ Yd (f δ C) fun d C' => Od (asB d) fun b => Q (rd (.bl (!b))) C' := yp_notV 
@[simp ↓] theorem yd_notT {f : EF Bool} {Q : Bool → Store → Prop} : Yd (fNotT f δ C) Q ↔ Yd (f δ C) fun b C' => Q (!b) C' := yp_notT 
@[simp ↓] theorem yd_neg {f : EF D} {Q : Res → Store → Prop} : Yd (fNeg f δ C) Q ↔ Yd (f δ C) fun d C' => Od (asI d) fun i => Q (rd (.int (-i))) C' := yp_neg 
@[simp ↓] theorem yd_op {g : D → D → Option Res} {f1 f2 : EF D} {Q : Res → Store → Prop} : Yd (fOp g f1 f2 δ C) Q ↔ Yd (f1 δ C) fun x C1 => Yd (f2 δ C1) fun y C2 => Od (g x y) fun r => Q r C2 := yp_op 
@[simp ↓] theorem yd_cmp {g : D → D → Option Bool} {f1 f2 : EF D} {Q : Bool → Store → Prop} : Yd (fCmp g f1 f2 δ C) Q ↔ Yd (f1 δ C) fun x C1 => Yd (f2 δ C1) fun y C2 => Od (g x y) fun r => Q r C2 := yp_cmp 
@[simp ↓] theorem yd_chain {g g' : D → D → Option Bool} {f1 f2 f3 : EF D} {Q : Bool → Store → Prop} : Yd (fChain g g' f1 f2 f3 δ C) Q ↔ Yd (f1 δ C) fun x C1 => Yd (f2 δ C1) fun y C2 => Od (g x y) fun r => Bd r (Yd (f3 δ C2) fun z C3 => Od (g' y z) fun r' => Q r' C3) (Q false C2) := yp_chain 
@[simp ↓] theorem yd_b {f : EF Bool} {Q : Res → Store → Prop} : Yd (fB f δ C) Q ↔ Yd (f δ C) fun b C' => Q (rd (.bl b)) C' := yp_b 
@[simp ↓] theorem yd_isN {neg : Bool} {f : EF Res} {Q : Bool → Store → Prop} : Yd (fIsN neg f δ C) Q ↔ Yd (f δ C) fun r C' => Od (look r C') fun v => Q (if neg then !FL.isNon v else FL.isNon v) C' := yp_isN 
@[simp ↓] theorem yd_in {neg : Bool} {f1 : EF D} {f2 : EF Res} {Q : Bool → Store → Prop} : Yd (fIn neg f1 f2 δ C) Q ↔ Yd (f1 δ C) fun x C1 => Yd (f2 δ C1) fun r C2 => Od (look r C2) fun v => Od (inF x v) fun b => Q (if neg then !b else b) C2 := yp_in 
@[simp ↓] theorem yd_tru {f : EF Res} {Q : Bool → Store → Prop} : Yd (fTru f δ C) Q ↔ Yd (f δ C) fun r C' => Od (look r C') fun v => Od (truF v) fun b => Q b C' := yp_tru 
@[simp ↓] theorem yd_ix {f1 : EF Res} {f2 : EF D} {Q : Res → Store → Prop} : Yd (fIx f1 f2 δ C) Q ↔ Yd (f1 δ C) fun r C1 => Yd (resF r δ C1) fun w C2 => Yd (f2 δ C2) fun y C3 => Od (look (.w w) C3) fun v => Od (ixF v y) fun r => Q r C3 := yp_ix 
@[simp ↓] theorem yd_part {f : EF D} {Q : Option Int → Store → Prop} : Yd (fPart f δ C) Q ↔ Yd (f δ C) fun d C' => Od (asI d) fun i => Q (some i) C' := yp_part 
@[simp ↓] theorem yd_sl {f1 : EF Res} {f2 f3 : EF (Option Int)} {Q : Res → Store → Prop} : Yd (fSl f1 f2 f3 δ C) Q ↔ Yd (f1 δ C) fun r C1 => Yd (resF r δ C1) fun w C2 => Yd (f2 δ C2) fun lo C3 => Yd (f3 δ C3) fun hi C4 => Od (look (.w w) C4) fun v => Od (slF v lo hi) fun r => Q r C4 := yp_sl 
@[simp ↓] theorem yd_nil {Q : List α → Store → Prop} : Yd (fNil δ C) Q ↔ Q [] C := yp_nil 
@[simp ↓] theorem yd_cons {f : EF α} {g : EF (List α)} {Q : List α → Store → Prop} : Yd (fCons f g δ C) Q ↔ Yd (f δ C) fun x C1 => Yd (g δ C1) fun xs C2 => Q (x :: xs) C2 := yp_cons 
@[simp ↓] theorem yd_tup {f : EF (List D)} {Q : Res → Store → Prop} : Yd (fTup f δ C) Q ↔ Yd (f δ C) fun ds C' => ds.length ≤ sizeLine ∧ Q (rd (.tup ds)) C' := yp_tup 
@[simp ↓] theorem yd_lst {f : EF (List D)} {Q : Res → Store → Prop} : Yd (fLst f δ C) Q ↔ Yd (f δ C) fun ds C' => ds.length ≤ sizeLine ∧ Q (.new (.lst ds)) C' := yp_lst 
@[simp ↓] theorem yd_call1 {g : Vw → Option Res} {f : EF Res} {Q : Res → Store → Prop} : Yd (fCall1 g f δ C) Q ↔ Yd (f δ C) fun r C' => Od (look r C') fun v => Od (g v) fun r => Q r C' := yp_call1 
@[simp ↓] theorem yd_isi {ns : List String} {f : EF Res} {Q : Res → Store → Prop} : Yd (fIsi ns f δ C) Q ↔ Yd (f δ C) fun r C1 => Yd (resF r δ C1) fun w C2 => Od (look (.w w) C2) fun v => Q (rd (.bl (ns.any fun n => isT (tyN v) n))) C2 := yp_isi 
@[simp ↓] theorem yd_expr {f : EF Res} {Q : Fl → Store → Prop} : Yd (fExpr f δ C) Q ↔ Yd (f δ C) fun _ C' => Q (.nx δ) C' := yp_expr 
@[simp ↓] theorem yd_fret {f : EF Res} {Q : Fl → Store → Prop} : Yd (fRet f δ C) Q ↔ Yd (f δ C) fun r C' => Q (.rt r) C' := yp_fret 
@[simp ↓] theorem yd_retD {f : EF D} {Q : Fl → Store → Prop} : Yd (fRetD f δ C) Q ↔ Yd (f δ C) fun d C' => Q (.rt (rd d)) C' := yp_retD 
@[simp ↓] theorem yd_set {f : EF W} {i : Nat} {Q : Fl → Store → Prop} : Yd (fSet f i δ C) Q ↔ Yd (f δ C) fun w C' => Q (.nx (δ.set i (some w))) C' := yp_set 
@[simp ↓] theorem yd_par {f : EF (List W)} {i j : Nat} {Q : Fl → Store → Prop} : Yd (fPar f i j δ C) Q ↔ Yd (f δ C) fun ws C' => Od (two ws) fun p => Q (.nx ((δ.set i (some p.1)).set j (some p.2))) C' := yp_par 
@[simp ↓] theorem yd_unp {f : EF D} {t : TF} {Q : Fl → Store → Prop} : Yd (fUnp f t δ C) Q ↔ Yd (f δ C) fun d C' => Od (t d δ) fun δ' => Q (.nx δ') C' := yp_unp 
@[simp ↓] theorem yd_it {f : EF D} {Q : List D → Store → Prop} : Yd (fIt f δ C) Q ↔ Yd (f δ C) fun d C' => Od (itD d) fun ds => Q ds C' := yp_it 
@[simp ↓] theorem yd_rng1 {f : EF D} {Q : List D → Store → Prop} : Yd (fRng1 f δ C) Q ↔ Yd (f δ C) fun d C' => Od (asI d) fun i => inR i ∧ i.toNat ≤ sizeLine ∧ Q (rngD 0 i) C' := yp_rng1 
@[simp ↓] theorem yd_enum {f : EF D} {Q : List D → Store → Prop} : Yd (fEnum f δ C) Q ↔ Yd (f δ C) fun d C' => Od (listD d) fun ds => Q (enD ds) C' := yp_enum 
theorem yd_zipl {f g : EF D} {Q : List D → Store → Prop} : (Yd (f δ C) fun x C1 => Yd (g δ C1) fun y C2 => ∃ xs ys, x = .lst xs ∧ y = .lst ys ∧ Q (zipD xs ys) C2) → Yd (fZip f g δ C) Q := yp_zipl 
@[simp ↓] theorem lc_some {β : Type} {x : β} {Q : β → Store → Prop} : Lc (some (x, C)) Q ↔ Q x C := lp_some 
theorem lc_mono {β : Type} {o : Option (β × Store)} {P Q : β → Store → Prop} (h : Lc o P) (w : ∀ x C, P x C → Q x C) : Lc o Q := lp_mono h w
@[simp ↓] theorem yd_lc {f : EF (List D)} {own : List Nat} {t : TF} {c : EF Bool} {e : EF D} {Q : Res → Store → Prop} : Yd (fLC f own t c e δ C) Q ↔ Yd (f δ C) fun ds C' => Lc (compL own t c e ds δ C') fun ys C2 => Q (.new (.lst ys)) C2 := yp_lc 
@[simp ↓] theorem yd_dc {f : EF (List D)} {own : List Nat} {t : TF} {c : EF Bool} {e v : EF D} {Q : Res → Store → Prop} : Yd (fDC f own t c e v δ C) Q ↔ Yd (f δ C) fun ds C' => Lc (compDC own t c e v ds δ C' []) fun ys C2 => Q (.new (.dct ys)) C2 := yp_dc 
@[simp ↓] theorem yd_for {f : EF (List D)} {t : TF} {b : SF} {Q : Fl → Store → Prop} : Yd (fFor f t b δ C) Q ↔ Yd (f δ C) fun ds C' => Yd (loopF t b ds δ C') Q := yp_for 
@[simp ↓] theorem yd_str {z : Str} {Q : Res → Store → Prop} : Yd (fStr z δ C) Q ↔ Q (rd (.str z)) C := yp_str 
theorem yd_setIx {fe fi : EF D} {fo : EF Res} {Q : Fl → Store → Prop} : (Yd (fe δ C) fun d C1 => Yd (fo δ C1) fun r C2 => Yd (fi δ C2) fun y C3 => ∃ i k ds j, r = .w (.c i) ∧ y = .int k ∧ C3[i]? = some (.lst ds) ∧ L2.ixN ds.length k = some j ∧ Q (.nx δ) (C3.set i (.lst (ds.set j d)))) → Yd (fSetIx fe fo fi δ C) Q := yp_setIx 
@[simp ↓] theorem yd_finish {n : Nat} {o : Option (Out Fl)} {Q : Res → Store → Prop} : Yd (FL.finish n o) Q ↔ Yd o fun fl C' => match fl with
    | .rt r => Yd (fin n r C') Q
    | .nx _ => Q (rd .non) (C'.take n)
    | _ => False := yp_finish 
@[simp ↓] theorem yd_fin {n : Nat} {x : D} {Q : Res → Store → Prop} : Yd (fin n (rd x) C) Q ↔ Q (rd x) (C.take n) := yp_fin 
@[simp ↓] theorem yd_finN {n : Nat} {c : Cell} {Q : Res → Store → Prop} : Yd (fin n (.new c) C) Q ↔ Q (.new c) (C.take n) := yp_finN 
/-- a comprehension that touches no cell -/
theorem compL_map {own : List Nat} {t : TF} {c : EF Bool} {e : EF D} {p : D → Bool} {g : D → D} : ∀ {ds : List D} {δ : Slots} {C : Store}, (∀ d ∈ ds, ∃ δ1, t d (wipeD δ own) = some δ1 ∧ c δ1 C = some (.ok (p d) C) ∧ (p d = true → e δ1 C = some (.ok (g d) C))) → compL own t c e ds δ C = some ((ds.filter p).map g, C)
  | [], _, _, _ => rfl
  | d :: ds, δ, C, h => by
    obtain ⟨δ1, h1, h2, h3⟩ := h d (List.mem_cons_self ..)
    have ih := compL_map (own := own) (ds := ds) (δ := δ) (C := C) fun d hd => h d (List.mem_cons_of_mem _ hd)
    unfold compL
    simp only [h1, h2]
    cases hp : p d with
    | false => simp [ih, hp]
    | true => simp [h3 hp, ih, hp]
/-- a comprehension with a state -/
theorem compL_inv {own : List Nat} {t : TF} {c : EF Bool} {e : EF D} {I : Nat → Store → Prop} {P : D → D → Prop} {δ : Slots} : ∀ {ds : List D} {n : Nat} {C : Store}, (∀ d ∈ ds, ∀ n C, I n C → ∃ δ1, t d (wipeD δ own) = some δ1 ∧ c δ1 C = some (.ok true C) ∧ Yd (e δ1 C) fun y C' => P d y ∧ I (n + 1) C') → I n C → ∃ ys C', compL own t c e ds δ C = some (ys, C') ∧ I (n + ds.length) C' ∧ All2 P ds ys
  | [], n, C, _, hI => ⟨[], C, rfl, hI, .nil⟩
  | d :: ds, n, C, h, hI => by
    obtain ⟨δ1, h1, h2, h3⟩ := h d (List.mem_cons_self ..) n C hI
    unfold compL
    simp only [h1, h2]
    match he : e δ1 C with
    | some (.ok y C2) =>
      rw [he] at h3
      obtain ⟨hp, hI'⟩ := h3
      obtain ⟨ys, C', q1, q2, q3⟩ := compL_inv (ds := ds) (fun d hd => h d (List.mem_cons_of_mem _ hd)) hI'
      refine ⟨y :: ys, C', by simp only [q1], ?_, .cons hp q3⟩
      rw [List.length_cons, show n + (ds.length + 1) = n + 1 + ds.length by omega]
      exact q2
    | none => rw [he] at h3; exact h3.elim
    | some (.exc _ _ _) => rw [he] at h3; exact h3.elim
/-- a loop that may end with a return; R: what a return must be -/
theorem loop_inv {t : TF} {b : SF} {I : Nat → Slots → Store → Prop} {R : Res → Store → Prop} : ∀ {ds : List D} {n : Nat} {δ : Slots} {C : Store}, (∀ d ∈ ds, ∀ n δ C, I n δ C → ∃ δ1, t d δ = some δ1 ∧ Yd (b δ1 C) fun fl C' => match fl with
      | .nx δ' => I (n + 1) δ' C'
      | .ct δ' => I (n + 1) δ' C'
      | .rt r => R r C'
      | .bk _ => False) → I n δ C → Yd (loopF t b ds δ C) fun fl C' => match fl with
      | .nx δ' => I (n + ds.length) δ' C'
      | .rt r => R r C'
      | _ => False
  | [], _, _, _, _, hI => hI
  | d :: ds, n, δ, C, h, hI => by
    obtain ⟨δ1, h1, h3⟩ := h d (List.mem_cons_self ..) n δ C hI
    unfold loopF
    simp only [h1]
    have ih : ∀ {δ' C'}, I (n + 1) δ' C' → Yd (loopF t b ds δ' C') fun fl C' => match fl with
      | .nx δ' => I (n + (d :: ds).length) δ' C'
      | .rt r => R r C'
      | _ => False := fun {δ' C'} hI' => by
        have q := loop_inv (ds := ds) (fun d hd => h d (List.mem_cons_of_mem _ hd)) hI'
        rw [List.length_cons, show n + (ds.length + 1) = n + 1 + ds.length by omega]
        exact q
    match he : b δ1 C with
    | some (.ok (.nx δ') C2) => rw [he] at h3; exact ih h3
    | some (.ok (.ct δ') C2) => rw [he] at h3; exact ih h3
    | some (.ok (.rt δ') C2) => rw [he] at h3; exact h3
    | some (.ok (.bk δ') C2) => rw [he] at h3; exact h3.elim
    | none => rw [he] at h3; exact h3.elim
    | some (.exc _ _ _) => rw [he] at h3; exact h3.elim
end
@[simp] theorem cm_eq : cmpF .Eq = eqF := rfl
@[simp] theorem cm_ne : cmpF .NotEq = neF := rfl
@[simp] theorem cm_lt : cmpF .Lt = ltF := rfl
@[simp] theorem cm_le : cmpF .LtE = leF := rfl
@[simp] theorem cm_gt : cmpF .Gt = gtF := rfl
@[simp] theorem cm_ge : cmpF .GtE = geF := rfl
@[simp] theorem op_add : opF .Add = addF := rfl
@[simp] theorem op_sub : opF .Sub = subF := rfl
@[simp] theorem op_mul : opF .Mult = mulF := rfl
@[simp] theorem op_div : opF .FloorDiv = divF := rfl
@[simp] theorem op_mod : opF .Mod = modF := rfl
@[simp] theorem op_pow : opF .Pow = powF := rfl
@[simp] theorem eq_ii {i j : Int} : eqF (.int i) (.int j) = some (i == j) := rfl
@[simp] theorem eq_ss {i j : Str} : eqF (.str i) (.str j) = some (i == j) := rfl
@[simp] theorem eq_bb {i j : Bool} : eqF (.bl i) (.bl j) = some (i == j) := rfl
@[simp] theorem ne_ii {i j : Int} : neF (.int i) (.int j) = some (!(i == j)) := rfl
@[simp] theorem ne_ss {i j : Str} : neF (.str i) (.str j) = some (!(i == j)) := rfl
@[simp] theorem ne_bb {i j : Bool} : neF (.bl i) (.bl j) = some (!(i == j)) := rfl
@[simp] theorem lt_ii {i j : Int} : ltF (.int i) (.int j) = some (decide (i < j)) := rfl
@[simp] theorem le_ii {i j : Int} : leF (.int i) (.int j) = some (decide (i ≤ j)) := rfl
@[simp] theorem gt_ii {i j : Int} : gtF (.int i) (.int j) = some (decide (j < i)) := rfl
@[simp] theorem ge_ii {i j : Int} : geF (.int i) (.int j) = some (decide (j ≤ i)) := rfl
@[simp] theorem add_ii {i j : Int} : addF (.int i) (.int j) = some (rd (.int (i + j))) := rfl
@[simp] theorem sub_ii {i j : Int} : subF (.int i) (.int j) = some (rd (.int (i - j))) := rfl
@[simp] theorem ll {ds : List D} : lookD (.lst ds) = .lst ds := rfl
@[simp] theorem lt' {ds : List D} : lookD (.tup ds) = .tup ds := rfl
@[simp] theorem lr {ds : List Int} : lookD (.scr ds) = .scr ds := rfl
@[simp] theorem ls {z : Str} : lookD (.str z) = .str z := rfl
@[simp] theorem ln : lookD .non = .sc .non := rfl
@[simp] theorem lb {b : Bool} : lookD (.bl b) = .sc (.bl b) := rfl
@[simp] theorem li {b : Int} : lookD (.int b) = .sc (.int b) := rfl
@[simp] theorem tn1 : tyN (.sc .non) = "NoneType" := rfl
@[simp] theorem tn2 {b : Bool} : tyN (.sc (.bl b)) = "bool" := rfl
@[simp] theorem tn3 {b : Int} : tyN (.sc (.int b)) = "int" := rfl
@[simp] theorem tn4 {b : Str} : tyN (.str b) = "str" := rfl
@[simp] theorem tn5 {b : List D} : tyN (.lst b) = "list" := rfl
@[simp] theorem tn6 {b : List Int} : tyN (.scr b) = "list" := rfl
@[simp] theorem tn7 {b : List D} : tyN (.tup b) = "tuple" := rfl
@[simp] theorem tn8 {b : List (L2.Key × D)} : tyN (.dct b) = "dict" := rfl
@[simp] theorem tr1 {b : Bool} : truF (.sc (.bl b)) = some b := rfl
@[simp] theorem tr2 {b : Int} : truF (.sc (.int b)) = some (b != 0) := rfl
@[simp] theorem tr3 {b : List D} : truF (.lst b) = some (!b.isEmpty) := rfl
@[simp] theorem tr4 {b : List D} : truF (.tup b) = some (!b.isEmpty) := rfl
@[simp] theorem tr5 : truF (.sc .non) = some false := rfl
@[simp] theorem le1 {b : List D} : lenF (.lst b) = some (rd (.int b.length)) := rfl
@[simp] theorem le2 {b : List D} : lenF (.tup b) = some (rd (.int b.length)) := rfl
@[simp] theorem le3 {b : List Int} : lenF (.scr b) = some (rd (.int b.length)) := rfl
@[simp] theorem le4 {b : Str} : lenF (.str b) = some (rd (.int b.length)) := rfl
@[simp] theorem in1 {b : Int} : intF (.sc (.int b)) = some (rd (.int b)) := rfl
@[simp] theorem ix1 {b : List D} {i : Int} : ixF (.lst b) (.int i) = (L2.atI b i).map rd := rfl
@[simp] theorem ix2 {b : List D} {i : Int} : ixF (.tup b) (.int i) = (L2.atI b i).map rd := rfl
@[simp] theorem ix3 {b : List Int} {i : Int} : ixF (.scr b) (.int i) = (L2.atI b i).map fun n => rd (.int n) := rfl
@[simp] theorem ix4 {b : Str} {i : Int} : ixF (.str b) (.int i) = (L2.atI b.cps.toList i).map fun c => rd (.str ⟨#[c]⟩) := rfl
@[simp] theorem lf1 {b : List D} : listF (.lst b) = some (.new (.lst b)) := rfl
@[simp] theorem lf2 {b : List D} : listF (.tup b) = some (.new (.lst b)) := rfl
@[simp] theorem tf1 {b : List D} : tupF (.lst b) = some (rd (.tup b)) := rfl
@[simp] theorem tf2 {b : List D} : tupF (.tup b) = some (rd (.tup b)) := rfl
@[simp] theorem it1 {b : List D} : itD (.lst b) = some b := rfl
@[simp] theorem it2 {b : List D} : itD (.tup b) = some b := rfl
@[simp] theorem it3 {b : List Int} : itD (.scr b) = some (b.map D.int) := rfl
@[simp] theorem it4 {b : Str} : itD (.str b) = some (signs b) := rfl
theorem asBs_map {p : D → Bool} : ∀ {ds : List D}, asBs (ds.map fun d => D.bl (p d)) = some (ds.map p)
  | [] => rfl
  | d :: ds => by
    have ih := asBs_map (p := p) (ds := ds)
    simp only [List.map_cons, asBs, ih, Option.map_some]
theorem atI_nat {α : Type} {xs : List α} {n : Nat} : L2.atI xs (n : Int) = xs[n]? := by
  unfold L2.atI L2.ixN
  rw [if_pos (by omega)]
  by_cases h : (n : Int) < xs.length
  · rw [if_pos h]; rfl
  · rw [if_neg h]
    rw [List.getElem?_eq_none (by omega)]
    rfl
@[simp] theorem atI0 {α : Type} {xs : List α} : L2.atI xs 0 = xs[0]? := atI_nat (n := 0)
@[simp] theorem atI1 {α : Type} {xs : List α} : L2.atI xs 1 = xs[1]? := atI_nat (n := 1)
@[simp] theorem atI2 {α : Type} {xs : List α} : L2.atI xs 2 = xs[2]? := atI_nat (n := 2)
@[simp] theorem atI3 {α : Type} {xs : List α} : L2.atI xs 3 = xs[3]? := atI_nat (n := 3)
@[simp] theorem atI4 {α : Type} {xs : List α} : L2.atI xs 4 = xs[4]? := atI_nat (n := 4)
theorem allF_map {p : D → Bool} {ds : List D} : allF (.lst (ds.map fun d => D.bl (p d))) = some (rd (.bl (ds.all p))) := by
  unfold allF lstB
  simp [asBs_map]
theorem compL_all {own : List Nat} {t : TF} {c : EF Bool} {e : EF D} {g : D → D} {ds : List D} {δ : Slots} {C : Store} (h : ∀ d ∈ ds, ∃ δ1, t d (wipeD δ own) = some δ1 ∧ c δ1 C = some (.ok true C) ∧ Yd (e δ1 C) fun y C' => y = g d ∧ C' = C) : compL own t c e ds δ C = some (ds.map g, C) := by
  have q := compL_map (own := own) (t := t) (c := c) (e := e) (p := fun _ => true) (g := g) (ds := ds) (δ := δ) (C := C) fun d hd => by
    obtain ⟨δ1, h1, h2, h3⟩ := h d hd
    exact ⟨δ1, h1, h2, fun _ => yd_eq.mp h3⟩
  rw [q, List.filter_eq_self.mpr (fun _ _ => rfl)]
theorem signs_all {z : Str} {p : D → Bool} : (signs z).all p = z.cps.toList.all fun c => p (.str ⟨#[c]⟩) := by
  unfold signs
  rw [List.all_map]
  rfl
@[simp] theorem inF_ss {c : Nat} {z : Str} : inF (.str ⟨#[c]⟩) (.str z) = some (decide (c ∈ z.cps.toList)) := rfl
def lstC : Cell → Option (List D)
  | .lst ds => some ds
  | _ => none
@[simp] theorem lstC_l {ds : List D} : lstC (.lst ds) = some ds := rfl
@[simp ↓] theorem yd_cell {i : Nat} {δ : Slots} {C : Store} {Q : List D → Store → Prop} : Yd (cellL (.c i) δ C) Q ↔ Od (C[i]?) fun c => Od (lstC c) fun ws => Q ws C := by
  unfold cellL
  simp only []
  match h : C[i]? with
  | none => exact Iff.rfl
  | some (.lst ws) => exact Iff.rfl
  | some (.dct _) => exact Iff.rfl
  | some (.fro _) => exact Iff.rfl
@[simp ↓] theorem yd_put {i : Nat} {c : Cell} {r : Res} {δ : Slots} {C : Store} {Q : Res → Store → Prop} : Yd (putL (.c i) c r δ C) Q ↔ Q r (C.set i c) := Iff.rfl
@[simp ↓] theorem yd_sIx {fe fi : EF D} {fo : EF Res} {δ : Slots} {C : Store} {Q : Fl → Store → Prop} : Yd (fSetIx fe fo fi δ C) Q ↔ Yd (fe δ C) fun d C1 => Yd (fo δ C1) fun r C2 => Yd (resF r δ C2) fun w C3 => Yd (fi δ C3) fun y C4 => Yd (cellL w δ C4) fun ws C5 => Od (asI y) fun i => Od (L2.ixN ws.length i) fun j => Yd (putL w (.lst (ws.set j d)) (rd .non) δ C5) fun _ C6 => Q (.nx δ) C6 := by
  unfold fSetIx
  simp only [Yd, Od, yp_bnd, yp_opt]
  exact Iff.rfl
@[simp] theorem lkc_l {ds : List D} : lookC (.lst ds) = .lst ds := rfl
@[simp] theorem lkc_d {ds : List (L2.Key × D)} : lookC (.dct ds) = .dct ds := rfl
theorem mod_ii {i j : Int} (h : 0 < j) : modF (.int i) (.int j) = some (rd (.int (i % j))) := if_pos h
theorem div_ii {i j : Int} (h : 0 < j) (h' : j < 1073741824) : divF (.int i) (.int j) = some (rd (.int (i / j))) := if_pos ⟨h, h'⟩
theorem mul_l {i j : Int} (h : -(2 ^ 64) < i ∧ i < 2 ^ 64) : mulF (.int i) (.int j) = some (rd (.int (i * j))) := if_pos (.inl h)
theorem mul_r {i j : Int} (h : -(2 ^ 64) < j ∧ j < 2 ^ 64) : mulF (.int i) (.int j) = some (rd (.int (i * j))) := if_pos (.inr h)
theorem pow_ii {i : Int} {j : Int} (h : i.natAbs < 2 ^ 64) (h0 : 0 ≤ j) (h1 : j ≤ 1000000) : powF (.int i) (.int j) = some (rd (.int (i ^ j.toNat))) := if_pos ⟨h0, h1, h⟩
/-- a comprehension with a state, whose steps count -/
theorem compL_cnt {own : List Nat} {t : TF} {c : EF Bool} {e : EF D} {I : Nat → Store → Prop} {P : D → D → Prop} {w : D → Nat} {δ : Slots} : ∀ {ds : List D} {n : Nat} {C : Store}, (∀ d ∈ ds, ∀ m C, m + w d ≤ n + (ds.map w).sum → I m C → ∃ δ1, t d (wipeD δ own) = some δ1 ∧ c δ1 C = some (.ok true C) ∧ Yd (e δ1 C) fun y C' => P d y ∧ I (m + w d) C') → I n C → Lc (compL own t c e ds δ C) fun ys C' => I (n + (ds.map w).sum) C' ∧ All2 P ds ys
  | [], n, C, _, hI => ⟨hI, .nil⟩
  | d :: ds, n, C, h, hI => by
    obtain ⟨δ1, h1, h2, h3⟩ := h d (List.mem_cons_self ..) n C (by rw [List.map_cons, List.sum_cons]; omega) hI
    unfold compL
    simp only [h1, h2]
    match he : e δ1 C with
    | some (.ok y C2) =>
      rw [he] at h3
      obtain ⟨hp, hI'⟩ := h3
      have q := compL_cnt (ds := ds) (n := n + w d) (C := C2) (own := own) (t := t) (c := c) (e := e) (I := I) (P := P) (w := w) (δ := δ) (fun d' hd m C' hm => h d' (List.mem_cons_of_mem _ hd) m C' (by rw [List.map_cons, List.sum_cons]; omega)) hI'
      match hc : compL own t c e ds δ C2, q with
      | some (ys, C'), ⟨q1, q2⟩ =>
        simp only [hc]
        refine ⟨?_, .cons hp q2⟩
        rw [List.map_cons, List.sum_cons, ← Nat.add_assoc]
        exact q1
    | none => rw [he] at h3; exact h3.elim
    | some (.exc _ _ _) => rw [he] at h3; exact h3.elim
end FL

/-! part HdX -/
set_option maxRecDepth 100000
set_option maxHeartbeats 0
namespace Hd
open L2 PyProof.Rows PySem.Spec PySem
def top (i : Nat) : Stmt := PySem.Challenge.pw_bellsranked_k01_whole_steps_programs_lin.main.body.getD i (.Pass ⟨0, 0, 0, 0⟩)
def s_is_integer : Stmt := top 3
def s_is_between : Stmt := top 4
def s_is_list : Stmt := top 5
def s_is_row_of : Stmt := top 6
def s_is_name : Stmt := top 7
def s_is_step : Stmt := top 9
def s_is_program : Stmt := top 10
def s_rung_in : Stmt := top 11
def s_cells_in : Stmt := top 12
def s_is_kind : Stmt := top 14
def s_is_line : Stmt := top 15
def s__law_spring : Stmt := top 17
def s__law_draw : Stmt := top 18
def s__law_pick : Stmt := top 19
def s__law_mixed : Stmt := top 20
def s__law_same : Stmt := top 21
def s__law_loose : Stmt := top 22
def s__law_s_whole : Stmt := top 23
def s__law_s_name : Stmt := top 24
def s__law_s_listed : Stmt := top 25
def s__law_s_step : Stmt := top 26
def s__law_s_program : Stmt := top 27
def s__law_s_kind : Stmt := top 28
def s__law_s_line : Stmt := top 29
def s__law_s_drawn_name : Stmt := top 30
def s__law_s_drawn_step : Stmt := top 31
def s__law_s_drawn_kind : Stmt := top 32
def s_law : Stmt := top 33
def d_is_integer : He.DefD := ⟨("is_integer", none), "is_integer", "is_integer", defArgs s_is_integer, defBody s_is_integer, defScope s_is_integer, [], []⟩
def d_is_between : He.DefD := ⟨("is_between", none), "is_between", "is_between", defArgs s_is_between, defBody s_is_between, defScope s_is_between, [], []⟩
def d_is_list : He.DefD := ⟨("is_list", none), "is_list", "is_list", defArgs s_is_list, defBody s_is_list, defScope s_is_list, [], []⟩
def d_is_row_of : He.DefD := ⟨("is_row_of", none), "is_row_of", "is_row_of", defArgs s_is_row_of, defBody s_is_row_of, defScope s_is_row_of, [], []⟩
def d_is_name : He.DefD := ⟨("is_name", none), "is_name", "is_name", defArgs s_is_name, defBody s_is_name, defScope s_is_name, [], []⟩
def d_is_step : He.DefD := ⟨("is_step", none), "is_step", "is_step", defArgs s_is_step, defBody s_is_step, defScope s_is_step, [], []⟩
def d_is_program : He.DefD := ⟨("is_program", none), "is_program", "is_program", defArgs s_is_program, defBody s_is_program, defScope s_is_program, [], []⟩
def d_rung_in : He.DefD := ⟨("rung_in", none), "rung_in", "rung_in", defArgs s_rung_in, defBody s_rung_in, defScope s_rung_in, [], []⟩
def d_cells_in : He.DefD := ⟨("cells_in", none), "cells_in", "cells_in", defArgs s_cells_in, defBody s_cells_in, defScope s_cells_in, [], []⟩
def d_is_kind : He.DefD := ⟨("is_kind", none), "is_kind", "is_kind", defArgs s_is_kind, defBody s_is_kind, defScope s_is_kind, [], []⟩
def d_is_line : He.DefD := ⟨("is_line", none), "is_line", "is_line", defArgs s_is_line, defBody s_is_line, defScope s_is_line, [], []⟩
def d__law_spring : He.DefD := ⟨("_law_spring", none), "_law_spring", "_law_spring", defArgs s__law_spring, defBody s__law_spring, defScope s__law_spring, [], []⟩
def d__law_draw : He.DefD := ⟨("_law_draw", none), "_law_draw", "_law_draw", defArgs s__law_draw, defBody s__law_draw, defScope s__law_draw, [], []⟩
def d__law_pick : He.DefD := ⟨("_law_pick", none), "_law_pick", "_law_pick", defArgs s__law_pick, defBody s__law_pick, defScope s__law_pick, [], []⟩
def d__law_mixed : He.DefD := ⟨("_law_mixed", none), "_law_mixed", "_law_mixed", defArgs s__law_mixed, defBody s__law_mixed, defScope s__law_mixed, [], []⟩
def d__law_same : He.DefD := ⟨("_law_same", none), "_law_same", "_law_same", defArgs s__law_same, defBody s__law_same, defScope s__law_same, [], []⟩
def d__law_loose : He.DefD := ⟨("_law_loose", none), "_law_loose", "_law_loose", defArgs s__law_loose, defBody s__law_loose, defScope s__law_loose, [], []⟩
def d__law_s_whole : He.DefD := ⟨("_law_s_whole", none), "_law_s_whole", "_law_s_whole", defArgs s__law_s_whole, defBody s__law_s_whole, defScope s__law_s_whole, [], []⟩
def d__law_s_name : He.DefD := ⟨("_law_s_name", none), "_law_s_name", "_law_s_name", defArgs s__law_s_name, defBody s__law_s_name, defScope s__law_s_name, [], []⟩
def d__law_s_listed : He.DefD := ⟨("_law_s_listed", none), "_law_s_listed", "_law_s_listed", defArgs s__law_s_listed, defBody s__law_s_listed, defScope s__law_s_listed, [], []⟩
def d__law_s_step : He.DefD := ⟨("_law_s_step", none), "_law_s_step", "_law_s_step", defArgs s__law_s_step, defBody s__law_s_step, defScope s__law_s_step, [], []⟩
def d__law_s_program : He.DefD := ⟨("_law_s_program", none), "_law_s_program", "_law_s_program", defArgs s__law_s_program, defBody s__law_s_program, defScope s__law_s_program, [], []⟩
def d__law_s_kind : He.DefD := ⟨("_law_s_kind", none), "_law_s_kind", "_law_s_kind", defArgs s__law_s_kind, defBody s__law_s_kind, defScope s__law_s_kind, [], []⟩
def d__law_s_line : He.DefD := ⟨("_law_s_line", none), "_law_s_line", "_law_s_line", defArgs s__law_s_line, defBody s__law_s_line, defScope s__law_s_line, [], []⟩
def d__law_s_drawn_name : He.DefD := ⟨("_law_s_drawn_name", none), "_law_s_drawn_name", "_law_s_drawn_name", defArgs s__law_s_drawn_name, defBody s__law_s_drawn_name, defScope s__law_s_drawn_name, [], []⟩
def d__law_s_drawn_step : He.DefD := ⟨("_law_s_drawn_step", none), "_law_s_drawn_step", "_law_s_drawn_step", defArgs s__law_s_drawn_step, defBody s__law_s_drawn_step, defScope s__law_s_drawn_step, [], []⟩
def d__law_s_drawn_kind : He.DefD := ⟨("_law_s_drawn_kind", none), "_law_s_drawn_kind", "_law_s_drawn_kind", defArgs s__law_s_drawn_kind, defBody s__law_s_drawn_kind, defScope s__law_s_drawn_kind, [], []⟩
def d_law : He.DefD := ⟨("law", none), "law", "law", defArgs s_law, defBody s_law, defScope s_law, [], []⟩
def fn : List He.DefD := [d_is_integer, d_is_between, d_is_list, d_is_row_of, d_is_name, d_is_step, d_is_program, d_rung_in, d_cells_in, d_is_kind, d_is_line, d__law_spring, d__law_draw, d__law_pick, d__law_mixed, d__law_same, d__law_loose, d__law_s_whole, d__law_s_name, d__law_s_listed, d__law_s_step, d__law_s_program, d__law_s_kind, d__law_s_line, d__law_s_drawn_name, d__law_s_drawn_step, d__law_s_drawn_kind, d_law]
def fa : List He.Fa := [.glo "is_integer", .glo "is_between", .glo "is_list", .glo "is_row_of", .glo "is_name", .glo "is_step", .glo "is_program", .glo "rung_in", .glo "cells_in", .glo "is_kind", .glo "is_line", .glo "_law_spring", .glo "_law_draw", .glo "_law_pick", .glo "_law_mixed", .glo "_law_same", .glo "_law_loose", .glo "_law_s_whole", .glo "_law_s_name", .glo "_law_s_listed", .glo "_law_s_step", .glo "_law_s_program", .glo "_law_s_kind", .glo "_law_s_line", .glo "_law_s_drawn_name", .glo "_law_s_drawn_step", .glo "_law_s_drawn_kind", .glo "law", .str "LETTERS" "abcdefghijklmnopqrstuvwxyz", .str "SIGNS" "abcdefghijklmnopqrstuvwxyz0123456789", .free "isinstance", .free "all", .free "sorted", .free "enumerate", .free "list", .free "dict", .free "range", .free "int", .free "tuple", .free "str", .free "bool", .free "len", .free "zip"]
abbrev R : PySem.W.OpenRow := PySem.W.OpenLaw.row PySem.Challenge.rw_bellsranked_k01_whole_steps_programs_lin
abbrev hk : PySem.W.Hook := He.hookD 4 fa fn
def ob (s : PySem.W.SharedT) : He.AlD := He.obsDG 4 fa fn (HandSHeadRun.getT s)
theorem ob_eq (s : PySem.W.SharedT) : ob s = hk.obs s.abs := He.obsDG_eq (HandSHeadRun.getT_eq s)
def loose : List PySem.Str := ["LETTERS", "SIGNS", "is_integer", "is_between", "is_list", "is_row_of", "is_name", "is_step", "is_program", "rung_in", "cells_in", "is_kind", "is_line", "_law_spring", "_law_draw", "_law_pick", "_law_mixed", "_law_same", "_law_loose", "_law_s_whole", "_law_s_name", "_law_s_listed", "_law_s_step", "_law_s_program", "_law_s_kind", "_law_s_line", "_law_s_drawn_name", "_law_s_drawn_step", "_law_s_drawn_kind"]
theorem run (w : World) : HandSHeadRun.RunEq R (PySem.W.view R.prog [33]) hk ob 4000 loose w := by
  intro os
  kernel_rfl
end Hd

/-! part R1 -/
set_option maxRecDepth 100000
namespace M
open FL PySem PySem.Spec PyProof.Rows
def r_is_integer : SF := (fSeq (fRetD (aD (fAndV (aD (fIsi ["int"] (fVar 0))) (fNotV (aD (fIsi ["bool"] (fVar 0))))))) fNext)
@[irreducible] def F_is_integer : Fn := mkFn 1 1 r_is_integer
@[simp] theorem ar_is_integer : F_is_integer.arity = 1 := by
  unfold F_is_integer; rfl
def r_is_between : SF := (fSeq (fRetD (aD (fAndV (aD (fCall F_is_integer (fCons (aDW (fVar 0)) fNil))) (fB (fChain (cmpF .LtE) (cmpF .LtE) (aD (fVar 1)) (aD (fVar 0)) (aD (fVar 2))))))) fNext)
@[irreducible] def F_is_between : Fn := mkFn 3 3 r_is_between
@[simp] theorem ar_is_between : F_is_between.arity = 3 := by
  unfold F_is_between; rfl
def r_is_list : SF := (fSeq (fRetD (aD (fIsi ["list", "tuple"] (fVar 0)))) fNext)
@[irreducible] def F_is_list : Fn := mkFn 1 1 r_is_list
@[simp] theorem ar_is_list : F_is_list.arity = 1 := by
  unfold F_is_list; rfl
def r_is_row_of : SF := (fSeq (fRetD (aD (fAndV (aD (fCall F_is_list (fCons (aDW (fVar 0)) fNil))) (fB (fCmp (cmpF .Eq) (aD (fCall1 lenF (fVar 0))) (aD (fVar 1))))))) fNext)
@[irreducible] def F_is_row_of : Fn := mkFn 2 2 r_is_row_of
@[simp] theorem ar_is_row_of : F_is_row_of.arity = 2 := by
  unfold F_is_row_of; rfl
def r_is_name : SF := (fSeq (fIf (fOrT (fNotT (fTru (fIsi ["str"] (fVar 0)))) (fNotT (fChain (cmpF .LtE) (cmpF .LtE) (aD (ret (rd (.int 1)))) (aD (fCall1 lenF (fVar 0))) (aD (ret (rd (.int 8))))))) (fSeq (fRetD (aD (ret (rd (.bl false))))) fNext) fNext) (fSeq (fIf (fIn true (aD (fIx (fVar 0) (aD (ret (rd (.int 0)))))) (fStr "abcdefghijklmnopqrstuvwxyz")) (fSeq (fRetD (aD (ret (rd (.bl false))))) fNext) fNext) (fSeq (fRetD (aD (fCall1 allF (fLC (fIt (aD (fVar 0))) [1] (tName 1) (ret true) (aD (fB (fIn false (aD (fVar 1)) (fStr "abcdefghijklmnopqrstuvwxyz0123456789")))))))) fNext)))
@[irreducible] def F_is_name : Fn := mkFn 1 2 r_is_name
@[simp] theorem ar_is_name : F_is_name.arity = 1 := by
  unfold F_is_name; rfl
def r_is_step : SF := (fSeq (fIf (fOrT (fNotT (fTru (fCall F_is_list (fCons (aDW (fVar 0)) fNil)))) (fOrT (fCmp (cmpF .Eq) (aD (fCall1 lenF (fVar 0))) (aD (ret (rd (.int 0))))) (fNotT (fTru (fIsi ["str"] (fIx (fVar 0) (aD (ret (rd (.int 0)))))))))) (fSeq (fRetD (aD (ret (rd (.bl false))))) fNext) fNext) (fSeq (fSet (aDW (fIx (fVar 0) (aD (ret (rd (.int 0)))))) 1) (fSeq (fIf (fCmp (cmpF .Eq) (aD (fVar 1)) (aD (ret (rd (.str "work"))))) (fSeq (fRetD (aD (fB (fCmp (cmpF .Eq) (aD (fCall1 lenF (fVar 0))) (aD (ret (rd (.int 1)))))))) fNext) fNext) (fSeq (fIf (fCmp (cmpF .Eq) (aD (fVar 1)) (aD (ret (rd (.str "mask"))))) (fSeq (fRetD (aD (fAndV (aD (fCall F_is_row_of (fCons (aDW (fVar 0)) (fCons (aDW (ret (rd (.int 2)))) fNil)))) (fCall F_is_between (fCons (aDW (fIx (fVar 0) (aD (ret (rd (.int 1)))))) (fCons (aDW (ret (rd (.int 0)))) (fCons (aDW (ret (rd (.int 9)))) fNil))))))) fNext) fNext) (fSeq (fIf (fIn false (aD (fVar 1)) (fTup (fCons (aD (ret (rd (.str "take")))) (fCons (aD (ret (rd (.str "ring")))) fNil)))) (fSeq (fRetD (aD (fAndV (aD (fCall F_is_row_of (fCons (aDW (fVar 0)) (fCons (aDW (ret (rd (.int 2)))) fNil)))) (fCall F_is_name (fCons (aDW (fIx (fVar 0) (aD (ret (rd (.int 1)))))) fNil))))) fNext) fNext) (fSeq (fRetD (aD (fAndV (aD (fB (fCmp (cmpF .Eq) (aD (fVar 1)) (aD (ret (rd (.str "put"))))))) (fAndV (aD (fCall F_is_row_of (fCons (aDW (fVar 0)) (fCons (aDW (ret (rd (.int 3)))) fNil)))) (fAndV (aD (fCall F_is_name (fCons (aDW (fIx (fVar 0) (aD (ret (rd (.int 1)))))) fNil))) (fCall F_is_between (fCons (aDW (fIx (fVar 0) (aD (ret (rd (.int 2)))))) (fCons (aDW (fNeg (aD (ret (rd (.int 1000)))))) (fCons (aDW (ret (rd (.int 1000)))) fNil))))))))) fNext))))))
@[irreducible] def F_is_step : Fn := mkFn 1 2 r_is_step
@[simp] theorem ar_is_step : F_is_step.arity = 1 := by
  unfold F_is_step; rfl
def r_is_program : SF := (fSeq (fRetD (aD (fAndV (aD (fCall F_is_list (fCons (aDW (fVar 0)) fNil))) (fAndV (aD (fB (fChain (cmpF .LtE) (cmpF .LtE) (aD (ret (rd (.int 1)))) (aD (fCall1 lenF (fVar 0))) (aD (ret (rd (.int 24))))))) (fCall1 allF (fLC (fIt (aD (fVar 0))) [1] (tName 1) (ret true) (aD (fCall F_is_step (fCons (aDW (fVar 1)) fNil))))))))) fNext)
@[irreducible] def F_is_program : Fn := mkFn 1 2 r_is_program
@[simp] theorem ar_is_program : F_is_program.arity = 1 := by
  unfold F_is_program; rfl
def r_rung_in : SF := (fSeq (fRetD (aD (fCall1 sortF (fDC (fIt (aD (fVar 0))) [1] (tName 1) (fCmp (cmpF .Eq) (aD (fIx (fVar 1) (aD (ret (rd (.int 0)))))) (aD (ret (rd (.str "ring"))))) (aD (fIx (fVar 1) (aD (ret (rd (.int 1)))))) (aD (ret (rd (.bl true)))))))) fNext)
@[irreducible] def F_rung_in : Fn := mkFn 1 2 r_rung_in
@[simp] theorem ar_rung_in : F_rung_in.arity = 1 := by
  unfold F_rung_in; rfl
def r_cells_in : SF := (fSeq (fRetD (aD (fCall1 sortF (fDC (fIt (aD (fVar 0))) [1] (tName 1) (fIn false (aD (fIx (fVar 1) (aD (ret (rd (.int 0)))))) (fTup (fCons (aD (ret (rd (.str "take")))) (fCons (aD (ret (rd (.str "put")))) fNil)))) (aD (fIx (fVar 1) (aD (ret (rd (.int 1)))))) (aD (ret (rd (.bl true)))))))) fNext)
@[irreducible] def F_cells_in : Fn := mkFn 1 2 r_cells_in
@[simp] theorem ar_cells_in : F_cells_in.arity = 1 := by
  unfold F_cells_in; rfl
def r_is_kind : SF := (fSeq (fIf (fOrT (fNotT (fTru (fCall F_is_list (fCons (aDW (fVar 0)) fNil)))) (fOrT (fCmp (cmpF .Eq) (aD (fCall1 lenF (fVar 0))) (aD (ret (rd (.int 0))))) (fNotT (fTru (fIsi ["str"] (fIx (fVar 0) (aD (ret (rd (.int 0)))))))))) (fSeq (fRetD (aD (ret (rd (.bl false))))) fNext) fNext) (fSeq (fIf (fIn false (aD (fIx (fVar 0) (aD (ret (rd (.int 0)))))) (fTup (fCons (aD (ret (rd (.str "apart")))) (fCons (aD (ret (rd (.str "every")))) fNil)))) (fSeq (fRetD (aD (fAndV (aD (fCall F_is_row_of (fCons (aDW (fVar 0)) (fCons (aDW (ret (rd (.int 2)))) fNil)))) (fCall F_is_between (fCons (aDW (fIx (fVar 0) (aD (ret (rd (.int 1)))))) (fCons (aDW (ret (rd (.int 1)))) (fCons (aDW (ret (rd (.int 64)))) fNil))))))) fNext) fNext) (fSeq (fRetD (aD (fAndV (aD (fB (fCmp (cmpF .Eq) (aD (fIx (fVar 0) (aD (ret (rd (.int 0)))))) (aD (ret (rd (.str "burst"))))))) (fAndV (aD (fCall F_is_row_of (fCons (aDW (fVar 0)) (fCons (aDW (ret (rd (.int 3)))) fNil)))) (fAndV (aD (fCall F_is_between (fCons (aDW (fIx (fVar 0) (aD (ret (rd (.int 1)))))) (fCons (aDW (ret (rd (.int 2)))) (fCons (aDW (ret (rd (.int 4)))) fNil))))) (fCall F_is_between (fCons (aDW (fIx (fVar 0) (aD (ret (rd (.int 2)))))) (fCons (aDW (ret (rd (.int 1)))) (fCons (aDW (ret (rd (.int 64)))) fNil))))))))) fNext)))
@[irreducible] def F_is_kind : Fn := mkFn 1 1 r_is_kind
@[simp] theorem ar_is_kind : F_is_kind.arity = 1 := by
  unfold F_is_kind; rfl
def r_is_line : SF := (fSeq (fIf (fOrT (fNotT (fTru (fCall F_is_row_of (fCons (aDW (fVar 0)) (fCons (aDW (ret (rd (.int 5)))) fNil))))) (fNotT (fTru (fCall F_is_name (fCons (aDW (fIx (fVar 0) (aD (ret (rd (.int 0)))))) fNil))))) (fSeq (fRetD (aD (ret (rd (.bl false))))) fNext) fNext) (fSeq (fIf (fOrT (fNotT (fTru (fCall F_is_between (fCons (aDW (fIx (fVar 0) (aD (ret (rd (.int 1)))))) (fCons (aDW (ret (rd (.int 1)))) (fCons (aDW (ret (rd (.int 9)))) fNil)))))) (fNotT (fTru (fCall F_is_between (fCons (aDW (fIx (fVar 0) (aD (ret (rd (.int 2)))))) (fCons (aDW (ret (rd (.int 1)))) (fCons (aDW (ret (rd (.int 3)))) fNil))))))) (fSeq (fRetD (aD (ret (rd (.bl false))))) fNext) fNext) (fSeq (fRetD (aD (fAndV (aD (fCall F_is_kind (fCons (aDW (fIx (fVar 0) (aD (ret (rd (.int 3)))))) fNil))) (fCall F_is_program (fCons (aDW (fIx (fVar 0) (aD (ret (rd (.int 4)))))) fNil))))) fNext)))
@[irreducible] def F_is_line : Fn := mkFn 1 1 r_is_line
@[simp] theorem ar_is_line : F_is_line.arity = 1 := by
  unfold F_is_line; rfl
def r__law_spring_t1 : SF := (fSeq (fSet (aDW (fOp (opF .Mod) (aD (fCall1 intF (fOp (opF .Add) (aD (fOp (opF .Add) (aD (fOp (opF .Add) (aD (fOp (opF .Mult) (aD (fVar 3)) (aD (ret (rd (.int 69069)))))) (aD (fVar 5)))) (aD (fOp (opF .Mult) (aD (ret (rd (.int 5)))) (aD (fVar 4)))))) (aD (ret (rd (.int 1))))))) (aD (ret (rd (.int 2147483629)))))) 3) fNext)
def r__law_spring_t2 : SF := (fSeq (fFor (fEnum (aD (fSl (fVar 0) (ret none) (fPart (aD (ret (rd (.int 63)))))))) (tTupF 2 (tConsF (tName 4) (tConsF (tName 5) tNilF))) r__law_spring_t1) (fSeq (fRet (fLst (fCons (aD (fIte (fCmp (cmpF .GtE) (aD (fVar 2)) (aD (fOp (opF .Pow) (aD (ret (rd (.int 10)))) (aD (ret (rd (.int 18))))))) (fVar 2) (ret (rd (.int 0))))) (fCons (aD (fOp (opF .Mod) (aD (fCall1 intF (fOp (opF .Add) (aD (fVar 3)) (aD (fOp (opF .Mult) (aD (fVar 2)) (aD (ret (rd (.int 31))))))))) (aD (ret (rd (.int 2147483647)))))) (fCons (aD (ret (rd (.int 0)))) fNil))))) fNext))
def r__law_spring_t3 : SF := (fSeq (fPar (fCons (aDW (fIte (fCmp (cmpF .Lt) (aD (fVar 1)) (aD (fCall1 lenF (fVar 0)))) (fIx (fVar 0) (aD (fVar 1))) (fOp (opF .Add) (aD (fOp (opF .Mult) (aD (ret (rd (.int 7)))) (aD (fVar 1)))) (aD (fCall1 lenF (fVar 0)))))) (fCons (aDW (fOp (opF .Add) (aD (ret (rd (.int 1009)))) (aD (fOp (opF .Mult) (aD (ret (rd (.int 97)))) (aD (fVar 1)))))) fNil)) 2 3) r__law_spring_t2)
def r__law_spring : SF := r__law_spring_t3
@[irreducible] def F__law_spring : Fn := mkFn 2 6 r__law_spring
@[simp] theorem ar__law_spring : F__law_spring.arity = 2 := by
  unfold F__law_spring; rfl
def r__law_draw : SF := (fSeq (fIf (fCmp (cmpF .Gt) (aD (fIx (fVar 0) (aD (ret (rd (.int 0)))))) (aD (ret (rd (.int 0))))) (fSeq (fSet (aDW (fOp (opF .Mod) (aD (fCall1 intF (fIx (fVar 0) (aD (ret (rd (.int 0))))))) (aD (fVar 1)))) 2) (fSeq (fSetIx (aD (fOp (opF .FloorDiv) (aD (fIx (fVar 0) (aD (ret (rd (.int 0)))))) (aD (fVar 1)))) (fVar 0) (aD (ret (rd (.int 0))))) (fSeq (fRetD (aD (fVar 2))) fNext))) fNext) (fSeq (fSetIx (aD (fOp (opF .Add) (aD (fIx (fVar 0) (aD (ret (rd (.int 2)))))) (aD (ret (rd (.int 1)))))) (fVar 0) (aD (ret (rd (.int 2))))) (fSeq (fSet (aDW (fOp (opF .Mod) (aD (fOp (opF .Pow) (aD (fCall1 intF (fOp (opF .Add) (aD (fOp (opF .Add) (aD (fIx (fVar 0) (aD (ret (rd (.int 1)))))) (aD (fOp (opF .Mult) (aD (ret (rd (.int 6364137)))) (aD (fIx (fVar 0) (aD (ret (rd (.int 2)))))))))) (aD (ret (rd (.int 1442695))))))) (aD (ret (rd (.int 3)))))) (aD (ret (rd (.int 2147483647)))))) 3) (fSeq (fRetD (aD (fOp (opF .Mod) (aD (fOp (opF .FloorDiv) (aD (fOp (opF .Mod) (aD (fOp (opF .Pow) (aD (fCall1 intF (fOp (opF .Add) (aD (fOp (opF .Mult) (aD (fVar 3)) (aD (ret (rd (.int 48271)))))) (aD (fOp (opF .Mult) (aD (ret (rd (.int 11)))) (aD (fIx (fVar 0) (aD (ret (rd (.int 2))))))))))) (aD (ret (rd (.int 3)))))) (aD (ret (rd (.int 2147483629)))))) (aD (ret (rd (.int 8)))))) (aD (fVar 1))))) fNext))))
@[irreducible] def F__law_draw : Fn := mkFn 2 4 r__law_draw
@[simp] theorem ar__law_draw : F__law_draw.arity = 2 := by
  unfold F__law_draw; rfl
def r__law_pick : SF := (fSeq (fRetD (aD (fIx (fVar 1) (aD (fCall F__law_draw (fCons (aW (fVar 0)) (fCons (aDW (fCall1 lenF (fVar 1))) fNil))))))) fNext)
@[irreducible] def F__law_pick : Fn := mkFn 2 2 r__law_pick
@[simp] theorem ar__law_pick : F__law_pick.arity = 2 := by
  unfold F__law_pick; rfl
def r__law_mixed : SF := (fSeq (fSet (aW (fCall1 listF (fVar 1))) 2) (fSeq (fRetD (aD (fLC (fRng1 (aD (fCall1 lenF (fVar 2)))) [3] (tName 3) (ret true) (aD (fPopAt (fVar 2) (aD (fCall F__law_draw (fCons (aW (fVar 0)) (fCons (aDW (fCall1 lenF (fVar 2))) fNil))))))))) fNext))
@[irreducible] def F__law_mixed : Fn := mkFn 2 4 r__law_mixed
@[simp] theorem ar__law_mixed : F__law_mixed.arity = 2 := by
  unfold F__law_mixed; rfl
def r__law_same (F_rec : Fn) : SF := (fSeq (fIf (fTru (fIsi ["dict"] (fVar 1))) (fSeq (fRetD (aD (fAndV (aD (fIsi ["dict"] (fVar 0))) (fCall F_rec (fCons (aDW (fCall1 listF stuck)) (fCons (aDW (fCall1 listF stuck)) fNil)))))) fNext) fNext) (fSeq (fIf (fTru (fIsi ["list", "tuple"] (fVar 1))) (fSeq (fIf (fOrT (fCmp (cmpF .NotEq) (aD (fIsi ["list"] (fVar 0))) (aD (fIsi ["list"] (fVar 1)))) (fCmp (cmpF .NotEq) (aD (fIsi ["tuple"] (fVar 0))) (aD (fIsi ["tuple"] (fVar 1))))) (fSeq (fRetD (aD (ret (rd (.bl false))))) fNext) fNext) (fSeq (fRetD (aD (fAndV (aD (fB (fCmp (cmpF .Eq) (aD (fCall1 lenF (fVar 0))) (aD (fCall1 lenF (fVar 1)))))) (fCall1 allF (fLC (fZip (aD (fVar 0)) (aD (fVar 1))) [3, 4] (tTupF 2 (tConsF (tName 3) (tConsF (tName 4) tNilF))) (ret true) (aD (fCall F_rec (fCons (aDW (fVar 3)) (fCons (aDW (fVar 4)) fNil))))))))) fNext)) fNext) (fSeq (fSet (aDW (fAndV (aD (fB (fCmp (cmpF .Eq) (aD (fIsi ["bool"] (fVar 0))) (aD (fIsi ["bool"] (fVar 1)))))) (fB (fCmp (cmpF .Eq) (aD (fIsi ["int"] (fVar 0))) (aD (fIsi ["int"] (fVar 1))))))) 2) (fSeq (fIf (fOrT (fTru (fIsi ["dict", "list", "tuple"] (fVar 0))) (fOrT (fNotT (fTru (fVar 2))) (fCmp (cmpF .NotEq) (aD (fIsi ["str"] (fVar 0))) (aD (fIsi ["str"] (fVar 1)))))) (fSeq (fRetD (aD (ret (rd (.bl false))))) fNext) fNext) (fSeq (fRetD (aD (fIte (fIsN false (fVar 1)) (fB (fIsN false (fVar 0))) (fB (fCmp (cmpF .Eq) (aD (fVar 0)) (aD (fVar 1))))))) fNext)))))
def G__law_same : Nat → Fn
  | 0 => ⟨2, fun _ _ => none⟩
  | k + 1 => mkFn 2 5 (r__law_same (G__law_same k))
@[irreducible] def F__law_same (k : Nat) : Fn := G__law_same k
theorem F__law_same_s (k : Nat) : F__law_same (k + 1) = mkFn 2 5 (r__law_same (F__law_same k)) := by
  unfold F__law_same; rfl
@[simp] theorem ar__law_same (k : Nat) : (F__law_same k).arity = 2 := by
  unfold F__law_same; cases k <;> rfl
def r__law_loose (F_rec : Fn) : SF := (fSeq (fIf (fTru (fIsi ["dict"] (fVar 1))) (fSeq (fRetD (aD (fCall1 dictF (fLC (fIt (aD (fCall F__law_mixed (fCons (aW (fVar 0)) (fCons (aDW (fCall1 listF (fVar 1))) fNil))))) [3] (tName 3) (ret true) (aD (fTup (fCons (aD (fVar 3)) (fCons (aD (fCall F_rec (fCons (aW (fVar 0)) (fCons (aDW (fIx (fVar 1) (aD (fVar 3)))) fNil)))) fNil)))))))) fNext) fNext) (fSeq (fIf (fNotT (fTru (fIsi ["list", "tuple"] (fVar 1)))) (fSeq (fRetD (aD (fVar 1))) fNext) fNext) (fSeq (fSet (aDW (fLC (fIt (aD (fVar 1))) [4] (tName 4) (ret true) (aD (fCall F_rec (fCons (aW (fVar 0)) (fCons (aDW (fVar 4)) fNil)))))) 2) (fSeq (fRetD (aD (fIte (fCmp (cmpF .Gt) (aD (fCall F__law_draw (fCons (aW (fVar 0)) (fCons (aDW (ret (rd (.int 2)))) fNil)))) (aD (ret (rd (.int 0))))) (fVar 2) (fCall1 tupF (fVar 2))))) fNext))))
def G__law_loose : Nat → Fn
  | 0 => ⟨2, fun _ _ => none⟩
  | k + 1 => mkFn 2 5 (r__law_loose (G__law_loose k))
@[irreducible] def F__law_loose (k : Nat) : Fn := G__law_loose k
theorem F__law_loose_s (k : Nat) : F__law_loose (k + 1) = mkFn 2 5 (r__law_loose (F__law_loose k)) := by
  unfold F__law_loose; rfl
@[simp] theorem ar__law_loose (k : Nat) : (F__law_loose k).arity = 2 := by
  unfold F__law_loose; cases k <;> rfl
def r__law_s_whole : SF := (fSeq (fRetD (aD (fAndV (aD (fIsi ["int"] (fVar 0))) (fAndV (aD (fNotV (aD (fIsi ["bool"] (fVar 0))))) (fB (fChain (cmpF .LtE) (cmpF .LtE) (aD (fVar 1)) (aD (fVar 0)) (aD (fVar 2)))))))) fNext)
@[irreducible] def F__law_s_whole : Fn := mkFn 3 3 r__law_s_whole
@[simp] theorem ar__law_s_whole : F__law_s_whole.arity = 3 := by
  unfold F__law_s_whole; rfl
def r__law_s_name : SF := (fSeq (fSet (aDW (ret (rd (.str "abcdefghijklmnopqrstuvwxyz0123456789")))) 1) (fSeq (fRetD (aD (fAndV (aD (fIsi ["str"] (fVar 0))) (fAndV (aD (fB (fChain (cmpF .LtE) (cmpF .LtE) (aD (ret (rd (.int 1)))) (aD (fCall1 lenF (fVar 0))) (aD (ret (rd (.int 8))))))) (fAndV (aD (fB (fIn false (aD (fIx (fVar 0) (aD (ret (rd (.int 0)))))) (fSl (fVar 1) (ret none) (fPart (aD (ret (rd (.int 26))))))))) (fCall1 allF (fLC (fIt (aD (fVar 0))) [2] (tName 2) (ret true) (aD (fB (fIn false (aD (fVar 2)) (fVar 1))))))))))) fNext))
@[irreducible] def F__law_s_name : Fn := mkFn 1 3 r__law_s_name
@[simp] theorem ar__law_s_name : F__law_s_name.arity = 1 := by
  unfold F__law_s_name; rfl
def r__law_s_listed : SF := (fSeq (fRetD (aD (fAndV (aD (fIsi ["list", "tuple"] (fVar 0))) (fB (fCmp (cmpF .Eq) (aD (fCall1 lenF (fVar 0))) (aD (fVar 1))))))) fNext)
@[irreducible] def F__law_s_listed : Fn := mkFn 2 2 r__law_s_listed
@[simp] theorem ar__law_s_listed : F__law_s_listed.arity = 2 := by
  unfold F__law_s_listed; rfl
def r__law_s_step : SF := (fSeq (fIf (fOrT (fNotT (fTru (fIsi ["list", "tuple"] (fVar 0)))) (fOrT (fCmp (cmpF .Eq) (aD (fCall1 lenF (fVar 0))) (aD (ret (rd (.int 0))))) (fNotT (fTru (fIsi ["str"] (fIx (fVar 0) (aD (ret (rd (.int 0)))))))))) (fSeq (fRetD (aD (ret (rd (.bl false))))) fNext) fNext) (fSeq (fIf (fCmp (cmpF .Eq) (aD (fIx (fVar 0) (aD (ret (rd (.int 0)))))) (aD (ret (rd (.str "work"))))) (fSeq (fRetD (aD (fB (fCmp (cmpF .Eq) (aD (fCall1 lenF (fVar 0))) (aD (ret (rd (.int 1)))))))) fNext) fNext) (fSeq (fIf (fCmp (cmpF .Eq) (aD (fIx (fVar 0) (aD (ret (rd (.int 0)))))) (aD (ret (rd (.str "mask"))))) (fSeq (fRetD (aD (fAndV (aD (fB (fCmp (cmpF .Eq) (aD (fCall1 lenF (fVar 0))) (aD (ret (rd (.int 2))))))) (fCall F__law_s_whole (fCons (aDW (fIx (fVar 0) (aD (ret (rd (.int 1)))))) (fCons (aDW (ret (rd (.int 0)))) (fCons (aDW (ret (rd (.int 9)))) fNil))))))) fNext) fNext) (fSeq (fIf (fCmp (cmpF .Eq) (aD (fIx (fVar 0) (aD (ret (rd (.int 0)))))) (aD (ret (rd (.str "put"))))) (fSeq (fRetD (aD (fAndV (aD (fB (fCmp (cmpF .Eq) (aD (fCall1 lenF (fVar 0))) (aD (ret (rd (.int 3))))))) (fAndV (aD (fCall F__law_s_name (fCons (aDW (fIx (fVar 0) (aD (ret (rd (.int 1)))))) fNil))) (fCall F__law_s_whole (fCons (aDW (fIx (fVar 0) (aD (ret (rd (.int 2)))))) (fCons (aDW (fNeg (aD (ret (rd (.int 1000)))))) (fCons (aDW (ret (rd (.int 1000)))) fNil)))))))) fNext) fNext) (fSeq (fRetD (aD (fAndV (aD (fB (fIn false (aD (fIx (fVar 0) (aD (ret (rd (.int 0)))))) (fLst (fCons (aD (ret (rd (.str "take")))) (fCons (aD (ret (rd (.str "ring")))) fNil)))))) (fAndV (aD (fB (fCmp (cmpF .Eq) (aD (fCall1 lenF (fVar 0))) (aD (ret (rd (.int 2))))))) (fCall F__law_s_name (fCons (aDW (fIx (fVar 0) (aD (ret (rd (.int 1)))))) fNil)))))) fNext)))))
@[irreducible] def F__law_s_step : Fn := mkFn 1 1 r__law_s_step
@[simp] theorem ar__law_s_step : F__law_s_step.arity = 1 := by
  unfold F__law_s_step; rfl
def r__law_s_program : SF := (fSeq (fRetD (aD (fAndV (aD (fIsi ["list", "tuple"] (fVar 0))) (fAndV (aD (fB (fChain (cmpF .LtE) (cmpF .LtE) (aD (ret (rd (.int 1)))) (aD (fCall1 lenF (fVar 0))) (aD (ret (rd (.int 24))))))) (fCall1 allF (fLC (fIt (aD (fVar 0))) [1] (tName 1) (ret true) (aD (fCall F__law_s_step (fCons (aDW (fVar 1)) fNil))))))))) fNext)
@[irreducible] def F__law_s_program : Fn := mkFn 1 2 r__law_s_program
@[simp] theorem ar__law_s_program : F__law_s_program.arity = 1 := by
  unfold F__law_s_program; rfl
def r__law_s_kind : SF := (fSeq (fIf (fOrT (fNotT (fTru (fIsi ["list", "tuple"] (fVar 0)))) (fOrT (fCmp (cmpF .Eq) (aD (fCall1 lenF (fVar 0))) (aD (ret (rd (.int 0))))) (fNotT (fTru (fIsi ["str"] (fIx (fVar 0) (aD (ret (rd (.int 0)))))))))) (fSeq (fRetD (aD (ret (rd (.bl false))))) fNext) fNext) (fSeq (fIf (fCmp (cmpF .Eq) (aD (fIx (fVar 0) (aD (ret (rd (.int 0)))))) (aD (ret (rd (.str "burst"))))) (fSeq (fRetD (aD (fAndV (aD (fB (fCmp (cmpF .Eq) (aD (fCall1 lenF (fVar 0))) (aD (ret (rd (.int 3))))))) (fAndV (aD (fCall F__law_s_whole (fCons (aDW (fIx (fVar 0) (aD (ret (rd (.int 1)))))) (fCons (aDW (ret (rd (.int 2)))) (fCons (aDW (ret (rd (.int 4)))) fNil))))) (fCall F__law_s_whole (fCons (aDW (fIx (fVar 0) (aD (ret (rd (.int 2)))))) (fCons (aDW (ret (rd (.int 1)))) (fCons (aDW (ret (rd (.int 64)))) fNil)))))))) fNext) fNext) (fSeq (fRetD (aD (fAndV (aD (fB (fIn false (aD (fIx (fVar 0) (aD (ret (rd (.int 0)))))) (fLst (fCons (aD (ret (rd (.str "apart")))) (fCons (aD (ret (rd (.str "every")))) fNil)))))) (fAndV (aD (fB (fCmp (cmpF .Eq) (aD (fCall1 lenF (fVar 0))) (aD (ret (rd (.int 2))))))) (fCall F__law_s_whole (fCons (aDW (fIx (fVar 0) (aD (ret (rd (.int 1)))))) (fCons (aDW (ret (rd (.int 1)))) (fCons (aDW (ret (rd (.int 64)))) fNil)))))))) fNext)))
@[irreducible] def F__law_s_kind : Fn := mkFn 1 1 r__law_s_kind
@[simp] theorem ar__law_s_kind : F__law_s_kind.arity = 1 := by
  unfold F__law_s_kind; rfl
def r__law_s_line : SF := (fSeq (fIf (fOrT (fNotT (fTru (fCall F__law_s_listed (fCons (aDW (fVar 0)) (fCons (aDW (ret (rd (.int 5)))) fNil))))) (fOrT (fNotT (fTru (fCall F__law_s_name (fCons (aDW (fIx (fVar 0) (aD (ret (rd (.int 0)))))) fNil)))) (fNotT (fTru (fCall F__law_s_whole (fCons (aDW (fIx (fVar 0) (aD (ret (rd (.int 1)))))) (fCons (aDW (ret (rd (.int 1)))) (fCons (aDW (ret (rd (.int 9)))) fNil)))))))) (fSeq (fRetD (aD (ret (rd (.bl false))))) fNext) fNext) (fSeq (fRetD (aD (fAndV (aD (fCall F__law_s_whole (fCons (aDW (fIx (fVar 0) (aD (ret (rd (.int 2)))))) (fCons (aDW (ret (rd (.int 1)))) (fCons (aDW (ret (rd (.int 3)))) fNil))))) (fAndV (aD (fCall F__law_s_kind (fCons (aDW (fIx (fVar 0) (aD (ret (rd (.int 3)))))) fNil))) (fCall F__law_s_program (fCons (aDW (fIx (fVar 0) (aD (ret (rd (.int 4)))))) fNil)))))) fNext))
@[irreducible] def F__law_s_line : Fn := mkFn 1 1 r__law_s_line
@[simp] theorem ar__law_s_line : F__law_s_line.arity = 1 := by
  unfold F__law_s_line; rfl
def r__law_s_drawn_name : SF := (fSeq (fSet (aDW (fLst (fCons (aD (ret (rd (.str "a")))) (fCons (aD (ret (rd (.str "z")))) (fCons (aD (ret (rd (.str "bell")))) (fCons (aD (ret (rd (.str "c0")))) (fCons (aD (ret (rd (.str "q9999999")))) (fCons (aD (ret (rd (.str "abcdefgh")))) (fCons (aD (ret (rd (.str "z0z0z0z0")))) fNil))))))))) 1) (fSeq (fRetD (aD (fCall F__law_pick (fCons (aW (fVar 0)) (fCons (aDW (fOp (opF .Add) (aD (fOp (opF .Mult) (aD (fVar 1)) (aD (ret (rd (.int 3)))))) (aD (fLst (fCons (aD (ret (rd (.str "")))) (fCons (aD (ret (rd (.str "0a")))) (fCons (aD (ret (rd (.str "A")))) (fCons (aD (ret (rd (.str "abcdefghi")))) (fCons (aD (ret (rd (.str "a b")))) (fCons (aD (ret (rd (.str "a_")))) (fCons (aD (ret (rd (.str "1")))) (fCons (aD (ret (rd (.str "aB")))) (fCons (aD (ret (rd (.str "a-b")))) fNil))))))))))))) fNil))))) fNext))
@[irreducible] def F__law_s_drawn_name : Fn := mkFn 1 2 r__law_s_drawn_name
@[simp] theorem ar__law_s_drawn_name : F__law_s_drawn_name.arity = 1 := by
  unfold F__law_s_drawn_name; rfl
def r__law_s_drawn_step : SF := (fSeq (fPar (fCons (aDW (fCall F__law_s_drawn_name (fCons (aW (fVar 0)) fNil))) (fCons (aDW (fCall F__law_pick (fCons (aW (fVar 0)) (fCons (aDW (fLst (fCons (aD (fNeg (aD (ret (rd (.int 1001)))))) (fCons (aD (fNeg (aD (ret (rd (.int 1000)))))) (fCons (aD (fNeg (aD (ret (rd (.int 1)))))) (fCons (aD (ret (rd (.int 0)))) (fCons (aD (ret (rd (.int 1)))) (fCons (aD (ret (rd (.int 9)))) (fCons (aD (ret (rd (.int 10)))) (fCons (aD (ret (rd (.int 999)))) (fCons (aD (ret (rd (.int 1000)))) (fCons (aD (ret (rd (.int 1001)))) (fCons (aD (ret (rd (.bl true)))) (fCons (aD (ret (rd .non))) (fCons (aD (ret (rd (.str "3")))) fNil))))))))))))))) fNil)))) fNil)) 1 2) (fSeq (fSet (aDW (fLst (fCons (aD (fTup (fCons (aD (ret (rd (.str "work")))) fNil))) (fCons (aD (fTup (fCons (aD (ret (rd (.str "work")))) fNil))) (fCons (aD (fTup (fCons (aD (ret (rd (.str "mask")))) (fCons (aD (fVar 2)) fNil)))) (fCons (aD (fTup (fCons (aD (ret (rd (.str "take")))) (fCons (aD (fVar 1)) fNil)))) (fCons (aD (fTup (fCons (aD (ret (rd (.str "put")))) (fCons (aD (fVar 1)) (fCons (aD (fVar 2)) fNil))))) (fCons (aD (fTup (fCons (aD (ret (rd (.str "ring")))) (fCons (aD (fVar 1)) fNil)))) (fCons (aD (fTup (fCons (aD (ret (rd (.str "mask")))) (fCons (aD (fCall F__law_draw (fCons (aW (fVar 0)) (fCons (aDW (ret (rd (.int 10)))) fNil)))) fNil)))) fNil))))))))) 3) (fSeq (fSet (aDW (fOp (opF .Add) (aD (fVar 3)) (aD (fLst (fCons (aD (fTup (fCons (aD (ret (rd (.str "put")))) (fCons (aD (fVar 1)) (fCons (aD (fOp (opF .Sub) (aD (fCall F__law_draw (fCons (aW (fVar 0)) (fCons (aDW (ret (rd (.int 2001)))) fNil)))) (aD (ret (rd (.int 1000)))))) fNil))))) (fCons (aD (fTup (fCons (aD (ret (rd (.str "work")))) (fCons (aD (ret (rd (.int 1)))) fNil)))) (fCons (aD (fTup (fCons (aD (ret (rd (.str "mask")))) fNil))) (fCons (aD (fTup (fCons (aD (ret (rd (.str "take")))) fNil))) (fCons (aD (fTup (fCons (aD (ret (rd (.str "put")))) (fCons (aD (fVar 1)) fNil)))) (fCons (aD (fTup (fCons (aD (ret (rd (.str "ring")))) (fCons (aD (fVar 1)) (fCons (aD (ret (rd (.int 1)))) fNil))))) (fCons (aD (fTup (fCons (aD (ret (rd (.str "wait")))) fNil))) (fCons (aD (fTup fNil)) (fCons (aD (ret (rd .non))) (fCons (aD (ret (rd (.str "work")))) (fCons (aD (ret (rd (.int 7)))) (fCons (aD (fLst (fCons (aD (fLst (fCons (aD (ret (rd (.str "work")))) fNil))) fNil))) fNil)))))))))))))))) 3) (fSeq (fRetD (aD (fCall F__law_pick (fCons (aW (fVar 0)) (fCons (aDW (fOp (opF .Add) (aD (fOp (opF .Mult) (aD (fSl (fVar 3) (ret none) (fPart (aD (ret (rd (.int 8))))))) (aD (ret (rd (.int 3)))))) (aD (fSl (fVar 3) (fPart (aD (ret (rd (.int 8))))) (ret none))))) fNil))))) fNext))))
@[irreducible] def F__law_s_drawn_step : Fn := mkFn 1 4 r__law_s_drawn_step
@[simp] theorem ar__law_s_drawn_step : F__law_s_drawn_step.arity = 1 := by
  unfold F__law_s_drawn_step; rfl
def r__law_s_drawn_kind : SF := (fSeq (fPar (fCons (aDW (fCall F__law_pick (fCons (aW (fVar 0)) (fCons (aDW (fLst (fCons (aD (ret (rd (.int 0)))) (fCons (aD (ret (rd (.int 1)))) (fCons (aD (ret (rd (.int 2)))) (fCons (aD (ret (rd (.int 63)))) (fCons (aD (ret (rd (.int 64)))) (fCons (aD (ret (rd (.int 65)))) (fCons (aD (ret (rd (.bl true)))) (fCons (aD (ret (rd .non))) fNil)))))))))) fNil)))) (fCons (aDW (fCall F__law_pick (fCons (aW (fVar 0)) (fCons (aDW (fLst (fCons (aD (ret (rd (.int 1)))) (fCons (aD (ret (rd (.int 2)))) (fCons (aD (ret (rd (.int 3)))) (fCons (aD (ret (rd (.int 4)))) (fCons (aD (ret (rd (.int 5)))) (fCons (aD (ret (rd (.str "2")))) fNil)))))))) fNil)))) fNil)) 1 2) (fSeq (fSet (aDW (fLst (fCons (aD (fTup (fCons (aD (ret (rd (.str "apart")))) (fCons (aD (fOp (opF .Add) (aD (ret (rd (.int 1)))) (aD (fCall F__law_draw (fCons (aW (fVar 0)) (fCons (aDW (ret (rd (.int 64)))) fNil)))))) fNil)))) (fCons (aD (fTup (fCons (aD (ret (rd (.str "every")))) (fCons (aD (fOp (opF .Add) (aD (ret (rd (.int 1)))) (aD (fCall F__law_draw (fCons (aW (fVar 0)) (fCons (aDW (ret (rd (.int 64)))) fNil)))))) fNil)))) (fCons (aD (fTup (fCons (aD (ret (rd (.str "burst")))) (fCons (aD (fOp (opF .Add) (aD (ret (rd (.int 2)))) (aD (fCall F__law_draw (fCons (aW (fVar 0)) (fCons (aDW (ret (rd (.int 3)))) fNil)))))) (fCons (aD (fOp (opF .Add) (aD (ret (rd (.int 1)))) (aD (fCall F__law_draw (fCons (aW (fVar 0)) (fCons (aDW (ret (rd (.int 64)))) fNil)))))) fNil))))) fNil))))) 3) (fSeq (fRetD (aD (fCall F__law_pick (fCons (aW (fVar 0)) (fCons (aDW (fOp (opF .Add) (aD (fOp (opF .Mult) (aD (fVar 3)) (aD (ret (rd (.int 2)))))) (aD (fLst (fCons (aD (fTup (fCons (aD (ret (rd (.str "apart")))) (fCons (aD (fVar 1)) fNil)))) (fCons (aD (fTup (fCons (aD (ret (rd (.str "every")))) (fCons (aD (fVar 1)) fNil)))) (fCons (aD (fTup (fCons (aD (ret (rd (.str "burst")))) (fCons (aD (fVar 2)) (fCons (aD (fVar 1)) fNil))))) (fCons (aD (fTup (fCons (aD (ret (rd (.str "burst")))) (fCons (aD (fVar 2)) fNil)))) (fCons (aD (fTup (fCons (aD (ret (rd (.str "apart")))) fNil))) (fCons (aD (fTup (fCons (aD (ret (rd (.str "often")))) (fCons (aD (ret (rd (.int 3)))) fNil)))) (fCons (aD (fLst fNil)) (fCons (aD (ret (rd .non))) (fCons (aD (ret (rd (.str "apart")))) fNil))))))))))))) fNil))))) fNext)))
@[irreducible] def F__law_s_drawn_kind : Fn := mkFn 1 4 r__law_s_drawn_kind
@[simp] theorem ar__law_s_drawn_kind : F__law_s_drawn_kind.arity = 1 := by
  unfold F__law_s_drawn_kind; rfl
def r_law_t1 : SF := (fSeq (fIf (fNotT (fTru (fCall (F__law_same 6) (fCons (aDW (fLst (fCons (aD (fCall F_is_line (fCons (aDW (fVar 12)) fNil))) (fCons (aD (fCall F_is_line (fCons (aDW (fCall (F__law_loose 6) (fCons (aW (fVar 2)) (fCons (aDW (fVar 13)) fNil)))) fNil))) (fCons (aD (fCall F_is_line (fCons (aDW (fSl (fVar 12) (ret none) (fPart (aD (ret (rd (.int 4))))))) fNil))) (fCons (aD (fCall F_is_line (fCons (aDW (fOp (opF .Add) (aD (fCall1 listF (fVar 13))) (aD (fLst (fCons (aD (ret (rd (.int 1)))) fNil))))) fNil))) fNil)))))) (fCons (aDW (fLst (fCons (aD (fCall F__law_s_line (fCons (aDW (fVar 12)) fNil))) (fCons (aD (ret (rd (.bl true)))) (fCons (aD (ret (rd (.bl false)))) (fCons (aD (ret (rd (.bl false)))) fNil)))))) fNil))))) (fSeq (fRetD (aD (ret (rd (.bl false))))) fNext) fNext) fNext)
def r_law_t2 : SF := (fSeq (fSet (aDW (fTup (fCons (aD (fCall F__law_pick (fCons (aW (fVar 2)) (fCons (aDW (fLst (fCons (aD (ret (rd (.str "a")))) (fCons (aD (ret (rd (.str "b7")))) fNil)))) fNil)))) (fCons (aD (fOp (opF .Add) (aD (ret (rd (.int 1)))) (aD (fCall F__law_draw (fCons (aW (fVar 2)) (fCons (aDW (ret (rd (.int 9)))) fNil)))))) (fCons (aD (fOp (opF .Add) (aD (ret (rd (.int 1)))) (aD (fCall F__law_draw (fCons (aW (fVar 2)) (fCons (aDW (ret (rd (.int 3)))) fNil)))))) (fCons (aD (fTup (fCons (aD (ret (rd (.str "apart")))) (fCons (aD (ret (rd (.int 5)))) fNil)))) (fCons (aD (fOp (opF .Add) (aD (fSl (fVar 7) (ret none) (fPart (aD (ret (rd (.int 3))))))) (aD (fLst (fCons (aD (fTup (fCons (aD (ret (rd (.str "work")))) fNil))) fNil))))) fNil))))))) 13) r_law_t1)
def r_law_t3 : SF := (fSeq (fSet (aDW (fTup (fCons (aD (fCall F__law_s_drawn_name (fCons (aW (fVar 2)) fNil))) (fCons (aD (fVar 10)) (fCons (aD (fVar 11)) (fCons (aD (fCall F__law_s_drawn_kind (fCons (aW (fVar 2)) fNil))) (fCons (aD (fCall F__law_pick (fCons (aW (fVar 2)) (fCons (aDW (fLst (fCons (aD (fVar 6)) (fCons (aD (fVar 7)) (fCons (aD (fLst (fCons (aD (fTup (fCons (aD (ret (rd (.str "work")))) fNil))) fNil))) fNil))))) fNil)))) fNil))))))) 12) r_law_t2)
def r_law_t4 : SF := (fSeq (fPar (fCons (aDW (fCall F__law_pick (fCons (aW (fVar 2)) (fCons (aDW (fLst (fCons (aD (ret (rd (.int 0)))) (fCons (aD (ret (rd (.int 1)))) (fCons (aD (ret (rd (.int 5)))) (fCons (aD (ret (rd (.int 9)))) (fCons (aD (ret (rd (.int 10)))) (fCons (aD (ret (rd (.bl false)))) (fCons (aD (ret (rd (.bl true)))) fNil))))))))) fNil)))) (fCons (aDW (fCall F__law_pick (fCons (aW (fVar 2)) (fCons (aDW (fLst (fCons (aD (ret (rd (.int 0)))) (fCons (aD (ret (rd (.int 1)))) (fCons (aD (ret (rd (.int 2)))) (fCons (aD (ret (rd (.int 3)))) (fCons (aD (ret (rd (.int 4)))) (fCons (aD (ret (rd (.bl true)))) fNil)))))))) fNil)))) fNil)) 10 11) r_law_t3)
def r_law_t5 : SF := (fSeq (fIf (fAndT (fTru (fVar 7)) (fNotT (fTru (fCall (F__law_same 6) (fCons (aDW (fLst (fCons (aD (fCall F_cells_in (fCons (aDW (fCall (F__law_loose 6) (fCons (aW (fVar 2)) (fCons (aDW (fVar 7)) fNil)))) fNil))) (fCons (aD (fCall F_rung_in (fCons (aDW (fCall1 tupF (fVar 7))) fNil))) fNil)))) (fCons (aDW (fLst (fCons (aD (fVar 8)) (fCons (aD (fVar 9)) fNil)))) fNil)))))) (fSeq (fRetD (aD (ret (rd (.bl false))))) fNext) fNext) r_law_t4)
def r_law_t6 : SF := (fSeq (fSet (aDW (fCall1 sortF (fCall1 dictF (fLC (fIt (aD (fVar 7))) [4] (tName 4) (fCmp (cmpF .Eq) (aD (fIx (fVar 4) (aD (ret (rd (.int 0)))))) (aD (ret (rd (.str "ring"))))) (aD (fTup (fCons (aD (fIx (fVar 4) (aD (ret (rd (.int 1)))))) (fCons (aD (ret (rd (.int 1)))) fNil)))))))) 9) r_law_t5)
def r_law_t7 : SF := (fSeq (fSet (aDW (fCall1 sortF (fCall1 dictF (fLC (fIt (aD (fVar 7))) [4] (tName 4) (fIn false (aD (fIx (fVar 4) (aD (ret (rd (.int 0)))))) (fLst (fCons (aD (ret (rd (.str "take")))) (fCons (aD (ret (rd (.str "put")))) fNil)))) (aD (fTup (fCons (aD (fIx (fVar 4) (aD (ret (rd (.int 1)))))) (fCons (aD (ret (rd (.int 1)))) fNil)))))))) 8) r_law_t6)
def r_law_t8 : SF := (fSeq (fIf (fNotT (fTru (fCall (F__law_same 6) (fCons (aDW (fLst (fCons (aD (fCall F_is_program (fCons (aDW (fVar 6)) fNil))) (fCons (aD (fCall F_is_program (fCons (aDW (fCall1 tupF (fVar 6))) fNil))) (fCons (aD (fCall F_is_program (fCons (aDW (fCall (F__law_loose 6) (fCons (aW (fVar 2)) (fCons (aDW (fVar 7)) fNil)))) fNil))) fNil))))) (fCons (aDW (fOp (opF .Add) (aD (fOp (opF .Mult) (aD (fLst (fCons (aD (fCall F__law_s_program (fCons (aDW (fVar 6)) fNil))) fNil))) (aD (ret (rd (.int 2)))))) (aD (fLst (fCons (aD (fCall F__law_s_program (fCons (aDW (fVar 7)) fNil))) fNil))))) fNil))))) (fSeq (fRetD (aD (ret (rd (.bl false))))) fNext) fNext) r_law_t7)
def r_law_t9 : SF := (fSeq (fSet (aDW (fOp (opF .Add) (aD (fSl (fLC (fIt (aD (fVar 6))) [4] (tName 4) (fTru (fCall F__law_s_step (fCons (aDW (fVar 4)) fNil))) (aD (fVar 4))) (ret none) (fPart (aD (ret (rd (.int 23))))))) (aD (fSl (fLst (fCons (aD (fTup (fCons (aD (ret (rd (.str "work")))) fNil))) fNil)) (ret none) (fPart (aD (fIte (fTru (fOp (opF .Mod) (aD (fVar 3)) (aD (ret (rd (.int 2)))))) (ret (rd (.int 1))) (ret (rd (.int 0)))))))))) 7) r_law_t8)
def r_law_t10 : SF := (fSeq (fSet (aDW (fLC (fRng1 (aD (fCall F__law_pick (fCons (aW (fVar 2)) (fCons (aDW (fLst (fCons (aD (ret (rd (.int 0)))) (fCons (aD (ret (rd (.int 1)))) (fCons (aD (ret (rd (.int 2)))) (fCons (aD (ret (rd (.int 5)))) (fCons (aD (ret (rd (.int 24)))) (fCons (aD (ret (rd (.int 25)))) fNil)))))))) fNil))))) [14] (tName 14) (ret true) (aD (fCall F__law_s_drawn_step (fCons (aW (fVar 2)) fNil))))) 6) r_law_t9)
def r_law_t11 : SF := (fSeq (fFor (fRng1 (aD (ret (rd (.int 6))))) (tName 3) r_law_t10) fNext)
def r_law_t12 : SF := (fSeq (fIf (fNotT (fTru (fCall (F__law_same 6) (fCons (aDW (fLst (fCons (aD (fCall F_is_step (fCons (aDW (fVar 4)) fNil))) (fCons (aD (fCall F_is_step (fCons (aDW (fCall (F__law_loose 6) (fCons (aW (fVar 2)) (fCons (aDW (fVar 4)) fNil)))) fNil))) (fCons (aD (fCall F_is_kind (fCons (aDW (fVar 5)) fNil))) (fCons (aD (fCall F_is_kind (fCons (aDW (fCall (F__law_loose 6) (fCons (aW (fVar 2)) (fCons (aDW (fVar 5)) fNil)))) fNil))) fNil)))))) (fCons (aDW (fOp (opF .Add) (aD (fOp (opF .Mult) (aD (fLst (fCons (aD (fCall F__law_s_step (fCons (aDW (fVar 4)) fNil))) fNil))) (aD (ret (rd (.int 2)))))) (aD (fOp (opF .Mult) (aD (fLst (fCons (aD (fCall F__law_s_kind (fCons (aDW (fVar 5)) fNil))) fNil))) (aD (ret (rd (.int 2)))))))) fNil))))) (fSeq (fRetD (aD (ret (rd (.bl false))))) fNext) fNext) fNext)
def r_law_t13 : SF := (fSeq (fPar (fCons (aDW (fCall F__law_s_drawn_step (fCons (aW (fVar 2)) fNil))) (fCons (aDW (fCall F__law_s_drawn_kind (fCons (aW (fVar 2)) fNil))) fNil)) 4 5) r_law_t12)
def r_law_t14 : SF := (fSeq (fFor (fRng1 (aD (ret (rd (.int 12))))) (tName 3) r_law_t13) r_law_t11)
def r_law_t15 : SF := (fSeq (fSet (aW (fCall F__law_spring (fCons (aDW (fVar 0)) (fCons (aDW (fVar 1)) fNil)))) 2) r_law_t14)
def r_law_t16 : SF := (fSeq (fFor (fRng1 (aD (ret (rd (.int 4))))) (tName 1) r_law_t15) (fSeq (fRetD (aD (ret (rd (.bl true))))) fNext))
def r_law_t17 : SF := (fSeq (fIf (fOrT (fTru (fCall F_is_line (fCons (aDW (fTup (fCons (aD (ret (rd (.str "a")))) (fCons (aD (ret (rd (.int 3)))) (fCons (aD (ret (rd (.int 2)))) (fCons (aD (fTup (fCons (aD (ret (rd (.str "apart")))) (fCons (aD (ret (rd (.int 5)))) fNil)))) (fCons (aD (fOp (opF .Mult) (aD (fLst (fCons (aD (fTup (fCons (aD (ret (rd (.str "mask")))) (fCons (aD (ret (rd (.int 1)))) fNil)))) fNil))) (aD (ret (rd (.int 25)))))) fNil))))))) fNil))) (fOrT (fTru (fCall F_is_line (fCons (aDW (fTup (fCons (aD (ret (rd (.str "aB")))) (fCons (aD (ret (rd (.int 3)))) (fCons (aD (ret (rd (.int 2)))) (fCons (aD (fTup (fCons (aD (ret (rd (.str "apart")))) (fCons (aD (ret (rd (.int 5)))) fNil)))) (fCons (aD (fLst (fCons (aD (fTup (fCons (aD (ret (rd (.str "work")))) fNil))) fNil))) fNil))))))) fNil))) (fTru (fCall F_is_line (fCons (aDW (fTup (fCons (aD (ret (rd (.str "a")))) (fCons (aD (ret (rd (.bl true)))) (fCons (aD (ret (rd (.int 2)))) (fCons (aD (fTup (fCons (aD (ret (rd (.str "apart")))) (fCons (aD (ret (rd (.int 5)))) fNil)))) (fCons (aD (fLst (fCons (aD (fTup (fCons (aD (ret (rd (.str "work")))) fNil))) fNil))) fNil))))))) fNil))))) (fSeq (fRetD (aD (ret (rd (.bl false))))) fNext) fNext) r_law_t16)
def r_law_t18 : SF := (fSeq (fIf (fNotT (fTru (fCall (F__law_same 6) (fCons (aDW (fLst (fCons (aD (fCall F_is_program (fCons (aDW (fOp (opF .Mult) (aD (fLst (fCons (aD (fTup (fCons (aD (ret (rd (.str "work")))) fNil))) fNil))) (aD (ret (rd (.int 24)))))) fNil))) (fCons (aD (fCall F_is_program (fCons (aDW (fOp (opF .Mult) (aD (fLst (fCons (aD (fTup (fCons (aD (ret (rd (.str "work")))) fNil))) fNil))) (aD (ret (rd (.int 25)))))) fNil))) (fCons (aD (fCall F_is_program (fCons (aDW (fLst fNil)) fNil))) fNil))))) (fCons (aDW (fLst (fCons (aD (ret (rd (.bl true)))) (fCons (aD (ret (rd (.bl false)))) (fCons (aD (ret (rd (.bl false)))) fNil))))) fNil))))) (fSeq (fRetD (aD (ret (rd (.bl false))))) fNext) fNext) r_law_t17)
def r_law : SF := r_law_t18
@[irreducible] def F_law : Fn := mkFn 1 15 r_law
@[simp] theorem ar_law : F_law.arity = 1 := by
  unfold F_law; rfl
end M

/-! part L1 -/
set_option maxRecDepth 100000
set_option maxHeartbeats 0
namespace M
open L2 FL PyProof.Rows PySem.Spec PySem
theorem l_is_integer : defFn Hd.s_is_integer ["thing"] ["thing"] [] [] ["isinstance", "int", "bool"] [] false = F_is_integer := by
  kernel_rfl
theorem l_is_between : defFn Hd.s_is_between ["thing", "low", "high"] ["thing", "low", "high"] [("is_integer", F_is_integer, [])] [] [] [] false = F_is_between := by
  kernel_rfl
theorem l_is_list : defFn Hd.s_is_list ["thing"] ["thing"] [] [] ["isinstance", "list", "tuple"] [] false = F_is_list := by
  kernel_rfl
theorem l_is_row_of : defFn Hd.s_is_row_of ["thing", "many"] ["thing", "many"] [("is_list", F_is_list, [])] [] ["len"] [] false = F_is_row_of := by
  kernel_rfl
theorem l_is_name : defFn Hd.s_is_name ["thing", "sign"] ["thing"] [] [("LETTERS", "abcdefghijklmnopqrstuvwxyz"), ("SIGNS", "abcdefghijklmnopqrstuvwxyz0123456789")] ["all", "isinstance", "str", "len"] [] false = F_is_name := by
  kernel_rfl
theorem l_is_step : defFn Hd.s_is_step ["thing", "word"] ["thing"] [("is_row_of", F_is_row_of, []), ("is_name", F_is_name, []), ("is_between", F_is_between, []), ("is_list", F_is_list, [])] [] ["len", "isinstance", "str"] [] false = F_is_step := by
  kernel_rfl
theorem l_is_program : defFn Hd.s_is_program ["thing", "step"] ["thing"] [("is_list", F_is_list, []), ("is_step", F_is_step, [])] [] ["all", "len"] [] false = F_is_program := by
  kernel_rfl
theorem l_rung_in : defFn Hd.s_rung_in ["program", "step"] ["program"] [] [] ["sorted"] [] false = F_rung_in := by
  kernel_rfl
theorem l_cells_in : defFn Hd.s_cells_in ["program", "step"] ["program"] [] [] ["sorted"] [] false = F_cells_in := by
  kernel_rfl
theorem l_is_kind : defFn Hd.s_is_kind ["thing"] ["thing"] [("is_row_of", F_is_row_of, []), ("is_between", F_is_between, []), ("is_list", F_is_list, [])] [] ["len", "isinstance", "str"] [] false = F_is_kind := by
  kernel_rfl
theorem l_is_line : defFn Hd.s_is_line ["thing"] ["thing"] [("is_kind", F_is_kind, []), ("is_program", F_is_program, []), ("is_row_of", F_is_row_of, []), ("is_name", F_is_name, []), ("is_between", F_is_between, [])] [] [] [] false = F_is_line := by
  kernel_rfl
theorem l__law_spring : defFn Hd.s__law_spring ["script", "turn", "cell", "mix", "at", "one"] ["script", "turn"] [] [] ["enumerate", "int", "len"] [] true = F__law_spring := by
  kernel_rfl
theorem l__law_draw : defFn Hd.s__law_draw ["spring", "many", "digit", "mixed"] ["spring", "many"] [] [] ["int"] [] false = F__law_draw := by
  kernel_rfl
theorem l__law_pick : defFn Hd.s__law_pick ["spring", "some"] ["spring", "some"] [("_law_draw", F__law_draw, [true])] [] ["len"] [] false = F__law_pick := by
  kernel_rfl
theorem l__law_mixed : defFn Hd.s__law_mixed ["spring", "some", "left", "k"] ["spring", "some"] [("_law_draw", F__law_draw, [true])] [] ["list", "range", "len"] ["left"] false = F__law_mixed := by
  kernel_rfl
theorem l__law_same (k : Nat) : (let F_rec := F__law_same k; defFn Hd.s__law_same ["found", "due", "is_alike", "one", "other"] ["found", "due"] [("_law_same", F_rec, [])] [] ["isinstance", "dict", "list", "tuple", "all", "bool", "int", "str", "len", "zip"] [] false) = F__law_same (k + 1) := by
  kernel_rfl
theorem l__law_loose (k : Nat) : (let F_rec := F__law_loose k; defFn Hd.s__law_loose ["spring", "thing", "found", "key", "part"] ["spring", "thing"] [("_law_loose", F_rec, [true]), ("_law_draw", F__law_draw, [true]), ("_law_mixed", F__law_mixed, [true])] [] ["isinstance", "dict", "tuple", "list"] [] false) = F__law_loose (k + 1) := by
  kernel_rfl
theorem l__law_s_whole : defFn Hd.s__law_s_whole ["thing", "low", "high"] ["thing", "low", "high"] [] [] ["isinstance", "int", "bool"] [] false = F__law_s_whole := by
  kernel_rfl
theorem l__law_s_name : defFn Hd.s__law_s_name ["thing", "signs", "sign"] ["thing"] [] [] ["isinstance", "str", "all", "len"] [] false = F__law_s_name := by
  kernel_rfl
theorem l__law_s_listed : defFn Hd.s__law_s_listed ["thing", "many"] ["thing", "many"] [] [] ["isinstance", "list", "tuple", "len"] [] false = F__law_s_listed := by
  kernel_rfl
theorem l__law_s_step : defFn Hd.s__law_s_step ["thing"] ["thing"] [("_law_s_name", F__law_s_name, []), ("_law_s_whole", F__law_s_whole, [])] [] ["isinstance", "len", "str", "list", "tuple"] [] false = F__law_s_step := by
  kernel_rfl
theorem l__law_s_program : defFn Hd.s__law_s_program ["thing", "one"] ["thing"] [("_law_s_step", F__law_s_step, [])] [] ["isinstance", "all", "list", "tuple", "len"] [] false = F__law_s_program := by
  kernel_rfl
theorem l__law_s_kind : defFn Hd.s__law_s_kind ["thing"] ["thing"] [("_law_s_whole", F__law_s_whole, [])] [] ["isinstance", "len", "str", "list", "tuple"] [] false = F__law_s_kind := by
  kernel_rfl
theorem l__law_s_line : defFn Hd.s__law_s_line ["thing"] ["thing"] [("_law_s_whole", F__law_s_whole, []), ("_law_s_kind", F__law_s_kind, []), ("_law_s_program", F__law_s_program, []), ("_law_s_listed", F__law_s_listed, []), ("_law_s_name", F__law_s_name, [])] [] [] [] false = F__law_s_line := by
  kernel_rfl
theorem l__law_s_drawn_name : defFn Hd.s__law_s_drawn_name ["spring", "good"] ["spring"] [("_law_pick", F__law_pick, [true])] [] [] [] false = F__law_s_drawn_name := by
  kernel_rfl
theorem l__law_s_drawn_step : defFn Hd.s__law_s_drawn_step ["spring", "name", "number", "some"] ["spring"] [("_law_pick", F__law_pick, [true]), ("_law_s_drawn_name", F__law_s_drawn_name, [true]), ("_law_draw", F__law_draw, [true])] [] [] [] false = F__law_s_drawn_step := by
  kernel_rfl
theorem l__law_s_drawn_kind : defFn Hd.s__law_s_drawn_kind ["spring", "gap", "many", "some"] ["spring"] [("_law_pick", F__law_pick, [true]), ("_law_draw", F__law_draw, [true])] [] [] [] false = F__law_s_drawn_kind := by
  kernel_rfl
theorem l_law : defFn Hd.s_law ["script", "turn", "spring", "k", "step", "kind", "program", "right", "cells", "rung", "rank", "holds", "line", "better", "j"] ["script"] [("_law_same", (F__law_same 6), []), ("is_line", F_is_line, []), ("_law_spring", F__law_spring, []), ("is_program", F_is_program, []), ("_law_s_drawn_step", F__law_s_drawn_step, [true]), ("_law_s_drawn_kind", F__law_s_drawn_kind, [true]), ("_law_pick", F__law_pick, [true]), ("_law_s_drawn_name", F__law_s_drawn_name, [true]), ("_law_draw", F__law_draw, [true]), ("is_step", F_is_step, []), ("is_kind", F_is_kind, []), ("_law_s_line", F__law_s_line, []), ("_law_loose", (F__law_loose 6), [true]), ("_law_s_step", F__law_s_step, []), ("_law_s_program", F__law_s_program, []), ("cells_in", F_cells_in, []), ("rung_in", F_rung_in, []), ("_law_s_kind", F__law_s_kind, [])] [] ["range", "sorted", "dict", "tuple", "list"] ["spring"] false = F_law := by
  kernel_rfl
end M

/-! part P1 -/
set_option maxRecDepth 100000
namespace M
open FL PySem PySem.Spec
def isInt : D → Bool
  | .int _ => true
  | _ => false
def betw (lo hi : Int) : D → Bool
  | .int i => decide (lo ≤ i) && decide (i ≤ hi)
  | _ => false
def seqD : D → Option (List D)
  | .lst xs => some xs
  | .tup xs => some xs
  | .scr ns => some (ns.map D.int)
  | _ => none
def isSeq (x : D) : Bool := (seqD x).isSome
def rowOf (n : Nat) (x : D) : Bool := match seqD x with
  | some xs => decide (xs.length = n)
  | none => false
theorem run_int (x : D) (C : Store) : F_is_integer.run [.d x] C = some (.ok (rd (.bl (isInt x))) C) := by
  rw [← yd_eq]
  cases x <;> (unfold F_is_integer r_is_integer; rw [run_mk, yd_finish]; simp [slots0, isInt, isT])
theorem run_betw (x : D) (lo hi : Int) (C : Store) : F_is_between.run [.d x, .d (.int lo), .d (.int hi)] C = some (.ok (rd (.bl (betw lo hi x))) C) := by
  rw [← yd_eq]
  have e : F_is_integer.arity = 1 := ar_is_integer
  cases x <;> (unfold F_is_between r_is_between; rw [run_mk, yd_finish]; simp [slots0, run_int, isInt, betw, e])
  · rename_i i
    by_cases h : lo ≤ i <;> simp [h] <;> omega
theorem run_whole (x : D) (lo hi : Int) (C : Store) : F__law_s_whole.run [.d x, .d (.int lo), .d (.int hi)] C = some (.ok (rd (.bl (betw lo hi x))) C) := by
  rw [← yd_eq]
  cases x <;> (unfold F__law_s_whole r__law_s_whole; rw [run_mk, yd_finish]; simp [slots0, betw, isT])
  · rename_i i
    by_cases h : lo ≤ i <;> simp [h] <;> omega
theorem run_list (x : D) (C : Store) : F_is_list.run [.d x] C = some (.ok (rd (.bl (isSeq x))) C) := by
  rw [← yd_eq]
  cases x <;> (unfold F_is_list r_is_list; rw [run_mk, yd_finish]; simp [slots0, isSeq, seqD, isT])
theorem run_row (x : D) (n : Nat) (C : Store) : F_is_row_of.run [.d x, .d (.int n)] C = some (.ok (rd (.bl (rowOf n x))) C) := by
  rw [← yd_eq]
  have e : F_is_list.arity = 1 := ar_is_list
  have q : ∀ k : Nat, ((k : Int) == (n : Int)) = decide (k = n) := fun k => by
    by_cases h : k = n
    · subst h; simp
    · simp [h]; omega
  cases x <;> (unfold F_is_row_of r_is_row_of; rw [run_mk, yd_finish]; simp [slots0, run_list, isSeq, seqD, rowOf, e, q]) <;> exact (Decidable.em _).symm
theorem run_listed (x : D) (n : Nat) (C : Store) : F__law_s_listed.run [.d x, .d (.int n)] C = some (.ok (rd (.bl (rowOf n x))) C) := by
  rw [← yd_eq]
  have q : ∀ k : Nat, ((k : Int) == (n : Int)) = decide (k = n) := fun k => by
    by_cases h : k = n
    · subst h; simp
    · simp [h]; omega
  cases x <;> (unfold F__law_s_listed r__law_s_listed; rw [run_mk, yd_finish]; simp [slots0, seqD, rowOf, isT, q]) <;> exact (Decidable.em _).symm
def lets : List Nat := ("abcdefghijklmnopqrstuvwxyz" : Str).cps.toList
def sgns : List Nat := ("abcdefghijklmnopqrstuvwxyz0123456789" : Str).cps.toList
def isNameL (l : List Nat) : Bool := match l with
  | [] => false
  | c :: r => decide (r.length ≤ 7) && decide (c ∈ lets) && (c :: r).all fun c => decide (c ∈ sgns)
def isName : D → Bool
  | .str z => isNameL z.cps.toList
  | _ => false
theorem nmAll {C : Store} {j : Nat} {δ : Slots} {l : List Nat} {f : EF Res} {g : Nat → Bool} (h : ∀ c ∈ l, ∃ δ1, tName j (.str ⟨#[c]⟩) (wipeD δ [j]) = some δ1 ∧ Yd (f δ1 C) fun y C' => y = rd (.bl (g c)) ∧ C' = C) : compL [j] (tName j) (ret true) (aD f) (signs ⟨⟨l⟩⟩) δ C = some ((l.map g).map D.bl, C) := by
  have q := compL_all (own := [j]) (t := tName j) (c := ret true) (e := aD f) (g := fun d => match d with
    | .str z => D.bl (g (z.cps.toList.headD 0))
    | _ => .non) (ds := signs ⟨⟨l⟩⟩) (δ := δ) (C := C) fun d hd => by
    obtain ⟨c, hc, rfl⟩ := List.mem_map.mp hd
    obtain ⟨δ1, h1, h2⟩ := h c hc
    refine ⟨δ1, h1, rfl, ?_⟩
    rw [yd_bnd]
    refine yd_mono h2 ?_
    rintro y C' ⟨rfl, rfl⟩
    exact ⟨rfl, rfl⟩
  rw [q]
  unfold signs
  rw [List.map_map, List.map_map]
  rfl
theorem allF_bl {bs : List Bool} : allF (.lst (bs.map D.bl)) = some (rd (.bl (bs.all id))) := by
  have : asBs (bs.map D.bl) = some bs := by
    induction bs with
    | nil => rfl
    | cons b bs ih => simp only [List.map_cons, asBs, ih, Option.map_some]
  show (asBs (bs.map D.bl)).map _ = _
  rw [this]
  rfl
theorem hletS : ("abcdefghijklmnopqrstuvwxyz" : Str).cps = ⟨lets⟩ := rfl
theorem hsgnS : ("abcdefghijklmnopqrstuvwxyz0123456789" : Str).cps = ⟨sgns⟩ := rfl
theorem hcut : (L2.cutS ("abcdefghijklmnopqrstuvwxyz0123456789" : Str) none (some 26)).cps = ⟨lets⟩ := by decide +kernel
theorem run_name (x : D) (C : Store) : F_is_name.run [.d x] C = some (.ok (rd (.bl (isName x))) C) := by
  rw [← yd_eq]
  cases x
  case str z =>
    obtain ⟨⟨l⟩⟩ := z
    have k : compL [1] (tName 1) (ret true) (aD (fB (fIn false (aD (fVar 1)) (fStr "abcdefghijklmnopqrstuvwxyz0123456789")))) (signs ⟨⟨l⟩⟩) [some (W.d (D.str ⟨⟨l⟩⟩)), none] C = some ((l.map fun c => decide (c ∈ sgns)).map D.bl, C) := by
      refine nmAll fun c _ => ⟨_, rfl, ?_⟩
      by_cases h : c ∈ sgns <;> simp [wipeD, hsgnS, h]
    have hl : (⟨⟨l⟩⟩ : Str).length = l.length := rfl
    match l with
    | [] => (unfold F_is_name r_is_name; rw [run_mk, yd_finish]; simp [slots0, isName, isT, isNameL, hl])
    | c :: r =>
      have e : isName (.str ⟨⟨c :: r⟩⟩) = (decide (r.length ≤ 7) && decide (c ∈ lets) && (c :: r).all fun c => decide (c ∈ sgns)) := rfl
      rw [e]
      have e1 : ((c :: r).map fun c => decide (c ∈ sgns)).all id = (c :: r).all fun c => decide (c ∈ sgns) := by rw [List.all_map]; rfl
      have hb := allF_bl (bs := (c :: r).map fun c => decide (c ∈ sgns))
      rw [e1] at hb
      generalize ((c :: r).map fun c => decide (c ∈ sgns)).map D.bl = bs at k hb
      generalize hg : ((c :: r).all fun c => decide (c ∈ sgns)) = g at *
      by_cases h1 : r.length ≤ 7
      · have h2 : ((r.length : Int) + 1 ≤ 8) := by omega
        have h3 : (1 ≤ (r.length : Int) + 1) := by omega
        by_cases h4 : c ∈ lets
        · (unfold F_is_name r_is_name; rw [run_mk, yd_finish]; simp [slots0, isT, hl, h1, h2, h3, h4, hletS, k, hb])
        · (unfold F_is_name r_is_name; rw [run_mk, yd_finish]; simp [slots0, isT, hl, h1, h2, h3, h4, hletS])
      · have h2 : ¬ ((r.length : Int) + 1 ≤ 8) := by omega
        have h3 : (1 ≤ (r.length : Int) + 1) := by omega
        (unfold F_is_name r_is_name; rw [run_mk, yd_finish]; simp [slots0, isT, hl, h1, h2, h3])
  all_goals (unfold F_is_name r_is_name; rw [run_mk, yd_finish]; simp [slots0, isName, isT])
end M

/-! part P2 -/
set_option maxRecDepth 100000
set_option maxHeartbeats 3999999
namespace M
open FL PySem PySem.Spec
theorem run_sname (x : D) (C : Store) : F__law_s_name.run [.d x] C = some (.ok (rd (.bl (isName x))) C) := by
  rw [← yd_eq]
  cases x
  case str z =>
    obtain ⟨⟨l⟩⟩ := z
    have k : compL [2] (tName 2) (ret true) (aD (fB (fIn false (aD (fVar 2)) (fVar 1)))) (signs ⟨⟨l⟩⟩) [some (W.d (D.str ⟨⟨l⟩⟩)), some (W.d (D.str "abcdefghijklmnopqrstuvwxyz0123456789")), none] C = some ((l.map fun c => decide (c ∈ sgns)).map D.bl, C) := by
      refine nmAll fun c _ => ⟨_, rfl, ?_⟩
      by_cases h : c ∈ sgns <;> simp [wipeD, hsgnS, h]
    have hl : (⟨⟨l⟩⟩ : Str).length = l.length := rfl
    match l with
    | [] => (unfold F__law_s_name r__law_s_name; rw [run_mk, yd_finish]; simp [slots0,  isName, isT, isNameL, hl])
    | c :: r =>
      have e : isName (.str ⟨⟨c :: r⟩⟩) = (decide (r.length ≤ 7) && decide (c ∈ lets) && (c :: r).all fun c => decide (c ∈ sgns)) := rfl
      rw [e]
      have e1 : ((c :: r).map fun c => decide (c ∈ sgns)).all id = (c :: r).all fun c => decide (c ∈ sgns) := by rw [List.all_map]; rfl
      have hb := allF_bl (bs := (c :: r).map fun c => decide (c ∈ sgns))
      rw [e1] at hb
      generalize ((c :: r).map fun c => decide (c ∈ sgns)).map D.bl = bs at k hb
      generalize hg : ((c :: r).all fun c => decide (c ∈ sgns)) = g at *
      by_cases h1 : r.length ≤ 7
      · have h2 : ((r.length : Int) + 1 ≤ 8) := by omega
        have h3 : (1 ≤ (r.length : Int) + 1) := by omega
        by_cases h4 : c ∈ lets
        · (unfold F__law_s_name r__law_s_name; rw [run_mk, yd_finish]; simp [slots0,  isT, hl, h1, h2, h3, h4, slF, hcut, k, hb])
        · (unfold F__law_s_name r__law_s_name; rw [run_mk, yd_finish]; simp [slots0,  isT, hl, h1, h2, h3, h4, slF, hcut])
      · have h2 : ¬ ((r.length : Int) + 1 ≤ 8) := by omega
        have h3 : (1 ≤ (r.length : Int) + 1) := by omega
        (unfold F__law_s_name r__law_s_name; rw [run_mk, yd_finish]; simp [slots0,  isT, hl, h1, h2, h3])
  all_goals (unfold F__law_s_name r__law_s_name; rw [run_mk, yd_finish]; simp [slots0,  isName, isT])
def isStepL : List D → Bool
  | .str w :: r => if w = "work" then r.isEmpty else if w = "mask" then (match r with
      | [x] => betw 0 9 x
      | _ => false) else if w = "take" ∨ w = "ring" then (match r with
      | [x] => isName x
      | _ => false) else if w = "put" then (match r with
      | [x, y] => isName x && betw (-1000) 1000 y
      | _ => false) else false
  | _ => false
def isStep (x : D) : Bool := match seqD x with
  | some xs => isStepL xs
  | none => false
def isKindL : List D → Bool
  | .str w :: r => if w = "apart" ∨ w = "every" then (match r with
      | [x] => betw 1 64 x
      | _ => false) else if w = "burst" then (match r with
      | [x, y] => betw 2 4 x && betw 1 64 y
      | _ => false) else false
  | _ => false
def isKind (x : D) : Bool := match seqD x with
  | some xs => isKindL xs
  | none => false
theorem row2 (x : D) (C : Store) : F_is_row_of.run [.d x, .d (.int 2)] C = some (.ok (rd (.bl (rowOf 2 x))) C) := run_row x 2 C
theorem row3 (x : D) (C : Store) : F_is_row_of.run [.d x, .d (.int 3)] C = some (.ok (rd (.bl (rowOf 3 x))) C) := run_row x 3 C
theorem row5 (x : D) (C : Store) : F_is_row_of.run [.d x, .d (.int 5)] C = some (.ok (rd (.bl (rowOf 5 x))) C) := run_row x 5 C
theorem lis5 (x : D) (C : Store) : F__law_s_listed.run [.d x, .d (.int 5)] C = some (.ok (rd (.bl (rowOf 5 x))) C) := run_listed x 5 C
theorem inD_s2 {w a b : Str} : inD (.str w) [.str a, .str b] = some (decide (w = a) || decide (w = b)) := by
  have e : ∀ a : Str, (a == w) = decide (w = a) := fun a => by
    by_cases h : w = a
    · subst h; simp
    · simp [h, Ne.symm h]
  simp [inD, flatD, eqD, e]
@[simp] theorem in_l {x : D} {ds : List D} : inF x (.lst ds) = inD x ds := rfl
@[simp] theorem in_t {x : D} {ds : List D} : inF x (.tup ds) = inD x ds := rfl
theorem sq_len {x : D} {xs : List D} (h : seqD x = some xs) : lenF (lookD x) = some (rd (.int xs.length)) := by
  cases x <;> simp [seqD] at h <;> subst h <;> simp
theorem sq_ix {x : D} {xs : List D} (h : seqD x = some xs) (i : Int) : ixF (lookD x) (.int i) = (L2.atI xs i).map rd := by
  cases x <;> simp [seqD] at h <;> subst h <;> simp
  rename_i ns
  have : ∀ i, L2.ixN (List.map D.int ns).length i = L2.ixN ns.length i := fun i => by rw [List.length_map]
  unfold L2.atI
  rw [this]
  cases L2.ixN ns.length i with
  | none => rfl
  | some j =>
    simp
    cases ns[j]? <;> rfl
theorem sq_row {x : D} {xs : List D} (h : seqD x = some xs) (n : Nat) : rowOf n x = decide (xs.length = n) := by
  unfold rowOf; rw [h]
theorem sq_is {x : D} {xs : List D} (h : seqD x = some xs) : isSeq x = true := by
  unfold isSeq; rw [h]; rfl
theorem sq_it {x : D} {xs : List D} (h : seqD x = some xs) : itD x = some xs := by
  cases x <;> simp [seqD] at h <;> subst h <;> simp
def isStr : D → Bool
  | .str _ => true
  | _ => false
theorem isT_str {x : D} : isT (tyN (lookD x)) "str" = isStr x := by cases x <;> rfl
theorem isT_seq {x : D} : (isT (tyN (lookD x)) "list" || isT (tyN (lookD x)) "tuple") = isSeq x := by cases x <;> rfl
theorem isT_seqN {x : D} : (!isT (tyN (lookD x)) "list" && !isT (tyN (lookD x)) "tuple") = !isSeq x := by cases x <;> rfl
theorem n1 : (Str.ofString "mask" = Str.ofString "work") = False := by decide +kernel
theorem n2 : (Str.ofString "take" = Str.ofString "work") = False := by decide +kernel
theorem n3 : (Str.ofString "take" = Str.ofString "mask") = False := by decide +kernel
theorem n4 : (Str.ofString "ring" = Str.ofString "work") = False := by decide +kernel
theorem n5 : (Str.ofString "ring" = Str.ofString "mask") = False := by decide +kernel
theorem n6 : (Str.ofString "ring" = Str.ofString "take") = False := by decide +kernel
theorem n7 : (Str.ofString "put" = Str.ofString "work") = False := by decide +kernel
theorem n8 : (Str.ofString "put" = Str.ofString "mask") = False := by decide +kernel
theorem n9 : (Str.ofString "put" = Str.ofString "take") = False := by decide +kernel
theorem n10 : (Str.ofString "put" = Str.ofString "ring") = False := by decide +kernel
theorem n11 : (Str.ofString "take" = Str.ofString "put") = False := by decide +kernel
theorem n12 : (Str.ofString "ring" = Str.ofString "put") = False := by decide +kernel
theorem n13 : (Str.ofString "burst" = Str.ofString "apart") = False := by decide +kernel
theorem n14 : (Str.ofString "burst" = Str.ofString "every") = False := by decide +kernel
theorem n15 : (Str.ofString "apart" = Str.ofString "burst") = False := by decide +kernel
theorem n16 : (Str.ofString "every" = Str.ofString "burst") = False := by decide +kernel
theorem n17 : (Str.ofString "every" = Str.ofString "apart") = False := by decide +kernel
theorem n18 : (Str.ofString "mask" = Str.ofString "put") = False := by decide +kernel
theorem n19 : (Str.ofString "mask" = Str.ofString "take") = False := by decide +kernel
theorem n20 : (Str.ofString "mask" = Str.ofString "ring") = False := by decide +kernel
theorem beqs {a b : Str} (h : a ≠ b) : (a == b) = false := by simp [h]
theorem b1 : (Str.ofString "mask" == Str.ofString "work") = false := beqs (of_eq_false n1)
theorem b2 : (Str.ofString "take" == Str.ofString "work") = false := beqs (of_eq_false n2)
theorem b3 : (Str.ofString "take" == Str.ofString "mask") = false := beqs (of_eq_false n3)
theorem b4 : (Str.ofString "ring" == Str.ofString "work") = false := beqs (of_eq_false n4)
theorem b5 : (Str.ofString "ring" == Str.ofString "mask") = false := beqs (of_eq_false n5)
theorem b6 : (Str.ofString "ring" == Str.ofString "take") = false := beqs (of_eq_false n6)
theorem b7 : (Str.ofString "put" == Str.ofString "work") = false := beqs (of_eq_false n7)
theorem b8 : (Str.ofString "put" == Str.ofString "mask") = false := beqs (of_eq_false n8)
theorem b9 : (Str.ofString "put" == Str.ofString "take") = false := beqs (of_eq_false n9)
theorem b10 : (Str.ofString "put" == Str.ofString "ring") = false := beqs (of_eq_false n10)
theorem b11 : (Str.ofString "take" == Str.ofString "put") = false := beqs (of_eq_false n11)
theorem b12 : (Str.ofString "ring" == Str.ofString "put") = false := beqs (of_eq_false n12)
theorem b13 : (Str.ofString "burst" == Str.ofString "apart") = false := beqs (of_eq_false n13)
theorem b14 : (Str.ofString "burst" == Str.ofString "every") = false := beqs (of_eq_false n14)
theorem b15 : (Str.ofString "apart" == Str.ofString "burst") = false := beqs (of_eq_false n15)
theorem b16 : (Str.ofString "every" == Str.ofString "burst") = false := beqs (of_eq_false n16)
theorem b17 : (Str.ofString "every" == Str.ofString "apart") = false := beqs (of_eq_false n17)
theorem b18 : (Str.ofString "mask" == Str.ofString "put") = false := beqs (of_eq_false n18)
theorem b19 : (Str.ofString "mask" == Str.ofString "take") = false := beqs (of_eq_false n19)
theorem b20 : (Str.ofString "mask" == Str.ofString "ring") = false := beqs (of_eq_false n20)
theorem words (w : Str) : w = "work" ∨ w = "mask" ∨ w = "take" ∨ w = "ring" ∨ w = "put" ∨ (w ≠ "work" ∧ w ≠ "mask" ∧ w ≠ "take" ∧ w ≠ "ring" ∧ w ≠ "put") := by
  by_cases h1 : w = "work"; · simp [h1]
  by_cases h2 : w = "mask"; · simp [h2]
  by_cases h3 : w = "take"; · simp [h3]
  by_cases h4 : w = "ring"; · simp [h4]
  by_cases h5 : w = "put"; · simp [h5]
  simp [h1, h2, h3, h4, h5]
theorem run_step (x : D) (C : Store) : F_is_step.run [.d x] C = some (.ok (rd (.bl (isStep x))) C) := by
  rw [← yd_eq]
  match hx : seqD x with
  | none =>
    have h1 : isSeq x = false := by simp [isSeq, hx]
    have h2 : isStep x = false := by simp [isStep, hx]
    (unfold F_is_step r_is_step; rw [run_mk, yd_finish]; simp [slots0,  run_list, h1, h2])
  | some xs =>
    have e : isStep x = isStepL xs := by simp [isStep, hx]
    rw [e]
    match xs, hx with
    | [], hx => (unfold F_is_step r_is_step; rw [run_mk, yd_finish]; simp [slots0,  run_list, sq_is hx, sq_len hx, isStepL])
    | a :: r, hx =>
      have hne : ((r.length : Int) + 1 == 0) = false := by simp; omega
      have hne' : ¬ ((r.length : Int) + 1 = 0) := by omega
      cases ha : isStr a with
      | false =>
        have e : isStepL (a :: r) = false := by
          cases a <;> first | rfl | cases ha
        (unfold F_is_step r_is_step; rw [run_mk, yd_finish]; simp [slots0,  run_list, sq_is hx, sq_len hx, sq_ix hx, isT_str, ha, hne, hne', e])
      | true =>
        obtain ⟨w, rfl⟩ : ∃ w, a = .str w := by
          cases a <;> first | exact ⟨_, rfl⟩ | cases ha
        have hT : isT "str" "str" = true := rfl
        have q0 : ∀ k : Nat, ((k : Int) + 1 == (0 : Int)) = false := fun k => beq_eq_false_iff_ne.mpr (by omega)
        have q1 : ∀ k : Nat, ((k : Int) + 1 + 1 == (0 : Int)) = false := fun k => beq_eq_false_iff_ne.mpr (by omega)
        have q2 : ∀ k : Nat, ((k : Int) + 1 + 1 + 1 + 1 == (0 : Int)) = false := fun k => beq_eq_false_iff_ne.mpr (by omega)
        have q3 : ∀ k : Nat, ((k : Int) + 1 + 1 + 1 + 1 == (1 : Int)) = false := fun k => beq_eq_false_iff_ne.mpr (by omega)
        have q4 : ∀ k : Nat, ((k : Int) + 1 + 1 + 1 + 1 == (2 : Int)) = false := fun k => beq_eq_false_iff_ne.mpr (by omega)
        have q5 : ∀ k : Nat, ((k : Int) + 1 + 1 + 1 + 1 == (3 : Int)) = false := fun k => beq_eq_false_iff_ne.mpr (by omega)
        have D2 := @inD_s2
        have z2 : 2 ≤ sizeLine := by decide +kernel
        match r, hx with
        | [], hx => rcases words w with rfl | rfl | rfl | rfl | rfl | ⟨w1, w2, w3, w4, w5⟩ <;> (try have v1 := beqs w1; have v2 := beqs w2; have v5 := beqs w5) <;> (unfold F_is_step r_is_step; rw [run_mk, yd_finish]; simp [slots0, *,  run_list, sq_is hx, sq_len hx, sq_ix hx, sq_row hx, row2, row3, isStepL, n1, n2, n3, n4, n5, n6, n7, n8, n9, n10, b1, b2, b3, b4, b5, b7, b8, b12, b11])
        | [u], hx =>
          cases h1 : isName u <;> cases h2 : betw 0 9 u <;> rcases words w with rfl | rfl | rfl | rfl | rfl | ⟨w1, w2, w3, w4, w5⟩ <;> (try have v1 := beqs w1; have v2 := beqs w2; have v5 := beqs w5) <;> (unfold F_is_step r_is_step; rw [run_mk, yd_finish]; simp [slots0, *,  run_list, run_name, run_betw, sq_is hx, sq_len hx, sq_ix hx, sq_row hx, row2, row3, isStepL, n1, n2, n3, n4, n5, n6, n7, n8, n9, n10, b1, b2, b3, b4, b5, b7, b8, b12, b11])
        | [u, v], hx =>
          cases h1 : isName u <;> cases h2 : betw (-1000) 1000 v <;> rcases words w with rfl | rfl | rfl | rfl | rfl | ⟨w1, w2, w3, w4, w5⟩ <;> (try have v1 := beqs w1; have v2 := beqs w2; have v5 := beqs w5) <;> (unfold F_is_step r_is_step; rw [run_mk, yd_finish]; simp [slots0, *,  run_list, run_name, run_betw, sq_is hx, sq_len hx, sq_ix hx, sq_row hx, row2, row3, isStepL, n1, n2, n3, n4, n5, n6, n7, n8, n9, n10, b1, b2, b3, b4, b5, b7, b8, b12, b11])
        | _ :: _ :: _ :: t, hx => rcases words w with rfl | rfl | rfl | rfl | rfl | ⟨w1, w2, w3, w4, w5⟩ <;> (try have v1 := beqs w1; have v2 := beqs w2; have v5 := beqs w5) <;> (unfold F_is_step r_is_step; rw [run_mk, yd_finish]; simp [slots0, *,  run_list, sq_is hx, sq_len hx, sq_ix hx, sq_row hx, row2, row3, isStepL, n1, n2, n3, n4, n5, n6, n7, n8, n9, n10, b1, b2, b3, b4, b5, b7, b8, b12, b11])
theorem words2 (w : Str) : w = "apart" ∨ w = "every" ∨ w = "burst" ∨ (w ≠ "apart" ∧ w ≠ "every" ∧ w ≠ "burst") := by
  by_cases h1 : w = "apart"; · simp [h1]
  by_cases h2 : w = "every"; · simp [h2]
  by_cases h3 : w = "burst"; · simp [h3]
  simp [h1, h2, h3]
theorem run_sstep (x : D) (C : Store) : F__law_s_step.run [.d x] C = some (.ok (rd (.bl (isStep x))) C) := by
  rw [← yd_eq]
  match hx : seqD x with
  | none =>
    have h1 : isSeq x = false := by simp [isSeq, hx]
    have h2 : isStep x = false := by simp [isStep, hx]
    (unfold F__law_s_step r__law_s_step; rw [run_mk, yd_finish]; simp [slots0,  isT_seq, isT_seqN, h1, h2])
  | some xs =>
    have e : isStep x = isStepL xs := by simp [isStep, hx]
    rw [e]
    match xs, hx with
    | [], hx => (unfold F__law_s_step r__law_s_step; rw [run_mk, yd_finish]; simp [slots0,  isT_seq, isT_seqN, sq_is hx, sq_len hx, isStepL])
    | a :: r, hx =>
      have hne : ((r.length : Int) + 1 == 0) = false := by simp; omega
      have hne' : ¬ ((r.length : Int) + 1 = 0) := by omega
      cases ha : isStr a with
      | false =>
        have e : isStepL (a :: r) = false := by
          cases a <;> first | rfl | cases ha
        (unfold F__law_s_step r__law_s_step; rw [run_mk, yd_finish]; simp [slots0,  isT_seq, isT_seqN, sq_is hx, sq_len hx, sq_ix hx, isT_str, ha, hne, hne', e])
      | true =>
        obtain ⟨w, rfl⟩ : ∃ w, a = .str w := by
          cases a <;> first | exact ⟨_, rfl⟩ | cases ha
        have hT : isT "str" "str" = true := rfl
        have q0 : ∀ k : Nat, ((k : Int) + 1 == (0 : Int)) = false := fun k => beq_eq_false_iff_ne.mpr (by omega)
        have q1 : ∀ k : Nat, ((k : Int) + 1 + 1 == (0 : Int)) = false := fun k => beq_eq_false_iff_ne.mpr (by omega)
        have q2 : ∀ k : Nat, ((k : Int) + 1 + 1 + 1 + 1 == (0 : Int)) = false := fun k => beq_eq_false_iff_ne.mpr (by omega)
        have q3 : ∀ k : Nat, ((k : Int) + 1 + 1 + 1 + 1 == (1 : Int)) = false := fun k => beq_eq_false_iff_ne.mpr (by omega)
        have q4 : ∀ k : Nat, ((k : Int) + 1 + 1 + 1 + 1 == (2 : Int)) = false := fun k => beq_eq_false_iff_ne.mpr (by omega)
        have q5 : ∀ k : Nat, ((k : Int) + 1 + 1 + 1 + 1 == (3 : Int)) = false := fun k => beq_eq_false_iff_ne.mpr (by omega)
        have D2 := @inD_s2
        have z2 : 2 ≤ sizeLine := by decide +kernel
        match r, hx with
        | [], hx => rcases words w with rfl | rfl | rfl | rfl | rfl | ⟨w1, w2, w3, w4, w5⟩ <;> (try have v1 := beqs w1; have v2 := beqs w2; have v5 := beqs w5) <;> (unfold F__law_s_step r__law_s_step; rw [run_mk, yd_finish]; simp [slots0, *,  isT_seq, isT_seqN, sq_is hx, sq_len hx, sq_ix hx, sq_row hx, isStepL, n1, n2, n3, n4, n5, n6, n7, n8, n9, n10, b1, b2, b3, b4, b5, b7, b8, b12, b11])
        | [u], hx =>
          cases h1 : isName u <;> cases h2 : betw 0 9 u <;> rcases words w with rfl | rfl | rfl | rfl | rfl | ⟨w1, w2, w3, w4, w5⟩ <;> (try have v1 := beqs w1; have v2 := beqs w2; have v5 := beqs w5) <;> (unfold F__law_s_step r__law_s_step; rw [run_mk, yd_finish]; simp [slots0, *,  isT_seq, isT_seqN, run_sname, run_whole, sq_is hx, sq_len hx, sq_ix hx, sq_row hx, isStepL, n1, n2, n3, n4, n5, n6, n7, n8, n9, n10, b1, b2, b3, b4, b5, b7, b8, b12, b11])
        | [u, v], hx =>
          cases h1 : isName u <;> cases h2 : betw (-1000) 1000 v <;> rcases words w with rfl | rfl | rfl | rfl | rfl | ⟨w1, w2, w3, w4, w5⟩ <;> (try have v1 := beqs w1; have v2 := beqs w2; have v5 := beqs w5) <;> (unfold F__law_s_step r__law_s_step; rw [run_mk, yd_finish]; simp [slots0, *,  isT_seq, isT_seqN, run_sname, run_whole, sq_is hx, sq_len hx, sq_ix hx, sq_row hx, isStepL, n1, n2, n3, n4, n5, n6, n7, n8, n9, n10, b1, b2, b3, b4, b5, b7, b8, b12, b11])
        | _ :: _ :: _ :: t, hx => rcases words w with rfl | rfl | rfl | rfl | rfl | ⟨w1, w2, w3, w4, w5⟩ <;> (try have v1 := beqs w1; have v2 := beqs w2; have v5 := beqs w5) <;> (unfold F__law_s_step r__law_s_step; rw [run_mk, yd_finish]; simp [slots0, *,  isT_seq, isT_seqN, sq_is hx, sq_len hx, sq_ix hx, sq_row hx, isStepL, n1, n2, n3, n4, n5, n6, n7, n8, n9, n10, b1, b2, b3, b4, b5, b7, b8, b12, b11])
theorem run_kind (x : D) (C : Store) : F_is_kind.run [.d x] C = some (.ok (rd (.bl (isKind x))) C) := by
  rw [← yd_eq]
  match hx : seqD x with
  | none =>
    have h1 : isSeq x = false := by simp [isSeq, hx]
    have h2 : isKind x = false := by simp [isKind, hx]
    (unfold F_is_kind r_is_kind; rw [run_mk, yd_finish]; simp [slots0,  run_list, h1, h2])
  | some xs =>
    have e : isKind x = isKindL xs := by simp [isKind, hx]
    rw [e]
    match xs, hx with
    | [], hx => (unfold F_is_kind r_is_kind; rw [run_mk, yd_finish]; simp [slots0,  run_list, sq_is hx, sq_len hx, isKindL])
    | a :: r, hx =>
      have hne : ((r.length : Int) + 1 == 0) = false := by simp; omega
      have hne' : ¬ ((r.length : Int) + 1 = 0) := by omega
      cases ha : isStr a with
      | false =>
        have e : isKindL (a :: r) = false := by
          cases a <;> first | rfl | cases ha
        (unfold F_is_kind r_is_kind; rw [run_mk, yd_finish]; simp [slots0,  run_list, sq_is hx, sq_len hx, sq_ix hx, isT_str, ha, hne, hne', e])
      | true =>
        obtain ⟨w, rfl⟩ : ∃ w, a = .str w := by
          cases a <;> first | exact ⟨_, rfl⟩ | cases ha
        have hT : isT "str" "str" = true := rfl
        have q0 : ∀ k : Nat, ((k : Int) + 1 == (0 : Int)) = false := fun k => beq_eq_false_iff_ne.mpr (by omega)
        have q1 : ∀ k : Nat, ((k : Int) + 1 + 1 == (0 : Int)) = false := fun k => beq_eq_false_iff_ne.mpr (by omega)
        have q2 : ∀ k : Nat, ((k : Int) + 1 + 1 + 1 + 1 == (0 : Int)) = false := fun k => beq_eq_false_iff_ne.mpr (by omega)
        have q3 : ∀ k : Nat, ((k : Int) + 1 + 1 + 1 + 1 == (1 : Int)) = false := fun k => beq_eq_false_iff_ne.mpr (by omega)
        have q4 : ∀ k : Nat, ((k : Int) + 1 + 1 + 1 + 1 == (2 : Int)) = false := fun k => beq_eq_false_iff_ne.mpr (by omega)
        have q5 : ∀ k : Nat, ((k : Int) + 1 + 1 + 1 + 1 == (3 : Int)) = false := fun k => beq_eq_false_iff_ne.mpr (by omega)
        have D2 := @inD_s2
        have z2 : 2 ≤ sizeLine := by decide +kernel
        match r, hx with
        | [], hx => rcases words2 w with rfl | rfl | rfl | ⟨w1, w2, w3⟩ <;> (try have v1 := beqs w3) <;> (unfold F_is_kind r_is_kind; rw [run_mk, yd_finish]; simp [slots0, *,  run_list, sq_is hx, sq_len hx, sq_ix hx, sq_row hx, row2, row3, isKindL, n13, n14, n15, n16, n17, b13, b15, b16])
        | [u], hx =>
          cases h1 : betw 1 64 u <;> rcases words2 w with rfl | rfl | rfl | ⟨w1, w2, w3⟩ <;> (try have v1 := beqs w3) <;> (unfold F_is_kind r_is_kind; rw [run_mk, yd_finish]; simp [slots0, *,  run_list, run_name, run_betw, sq_is hx, sq_len hx, sq_ix hx, sq_row hx, row2, row3, isKindL, n13, n14, n15, n16, n17, b13, b15, b16])
        | [u, v], hx =>
          cases h1 : betw 2 4 u <;> cases h2 : betw 1 64 v <;> rcases words2 w with rfl | rfl | rfl | ⟨w1, w2, w3⟩ <;> (try have v1 := beqs w3) <;> (unfold F_is_kind r_is_kind; rw [run_mk, yd_finish]; simp [slots0, *,  run_list, run_name, run_betw, sq_is hx, sq_len hx, sq_ix hx, sq_row hx, row2, row3, isKindL, n13, n14, n15, n16, n17, b13, b15, b16])
        | _ :: _ :: _ :: t, hx => rcases words2 w with rfl | rfl | rfl | ⟨w1, w2, w3⟩ <;> (try have v1 := beqs w3) <;> (unfold F_is_kind r_is_kind; rw [run_mk, yd_finish]; simp [slots0, *,  run_list, sq_is hx, sq_len hx, sq_ix hx, sq_row hx, row2, row3, isKindL, n13, n14, n15, n16, n17, b13, b15, b16])
theorem run_skind (x : D) (C : Store) : F__law_s_kind.run [.d x] C = some (.ok (rd (.bl (isKind x))) C) := by
  rw [← yd_eq]
  match hx : seqD x with
  | none =>
    have h1 : isSeq x = false := by simp [isSeq, hx]
    have h2 : isKind x = false := by simp [isKind, hx]
    (unfold F__law_s_kind r__law_s_kind; rw [run_mk, yd_finish]; simp [slots0,  isT_seq, isT_seqN, h1, h2])
  | some xs =>
    have e : isKind x = isKindL xs := by simp [isKind, hx]
    rw [e]
    match xs, hx with
    | [], hx => (unfold F__law_s_kind r__law_s_kind; rw [run_mk, yd_finish]; simp [slots0,  isT_seq, isT_seqN, sq_is hx, sq_len hx, isKindL])
    | a :: r, hx =>
      have hne : ((r.length : Int) + 1 == 0) = false := by simp; omega
      have hne' : ¬ ((r.length : Int) + 1 = 0) := by omega
      cases ha : isStr a with
      | false =>
        have e : isKindL (a :: r) = false := by
          cases a <;> first | rfl | cases ha
        (unfold F__law_s_kind r__law_s_kind; rw [run_mk, yd_finish]; simp [slots0,  isT_seq, isT_seqN, sq_is hx, sq_len hx, sq_ix hx, isT_str, ha, hne, hne', e])
      | true =>
        obtain ⟨w, rfl⟩ : ∃ w, a = .str w := by
          cases a <;> first | exact ⟨_, rfl⟩ | cases ha
        have hT : isT "str" "str" = true := rfl
        have q0 : ∀ k : Nat, ((k : Int) + 1 == (0 : Int)) = false := fun k => beq_eq_false_iff_ne.mpr (by omega)
        have q1 : ∀ k : Nat, ((k : Int) + 1 + 1 == (0 : Int)) = false := fun k => beq_eq_false_iff_ne.mpr (by omega)
        have q2 : ∀ k : Nat, ((k : Int) + 1 + 1 + 1 + 1 == (0 : Int)) = false := fun k => beq_eq_false_iff_ne.mpr (by omega)
        have q3 : ∀ k : Nat, ((k : Int) + 1 + 1 + 1 + 1 == (1 : Int)) = false := fun k => beq_eq_false_iff_ne.mpr (by omega)
        have q4 : ∀ k : Nat, ((k : Int) + 1 + 1 + 1 + 1 == (2 : Int)) = false := fun k => beq_eq_false_iff_ne.mpr (by omega)
        have q5 : ∀ k : Nat, ((k : Int) + 1 + 1 + 1 + 1 == (3 : Int)) = false := fun k => beq_eq_false_iff_ne.mpr (by omega)
        have D2 := @inD_s2
        have z2 : 2 ≤ sizeLine := by decide +kernel
        match r, hx with
        | [], hx => rcases words2 w with rfl | rfl | rfl | ⟨w1, w2, w3⟩ <;> (try have v1 := beqs w3) <;> (unfold F__law_s_kind r__law_s_kind; rw [run_mk, yd_finish]; simp [slots0, *,  isT_seq, isT_seqN, sq_is hx, sq_len hx, sq_ix hx, sq_row hx, isKindL, n13, n14, n15, n16, n17, b13, b15, b16])
        | [u], hx =>
          cases h1 : betw 1 64 u <;> rcases words2 w with rfl | rfl | rfl | ⟨w1, w2, w3⟩ <;> (try have v1 := beqs w3) <;> (unfold F__law_s_kind r__law_s_kind; rw [run_mk, yd_finish]; simp [slots0, *,  isT_seq, isT_seqN, run_sname, run_whole, sq_is hx, sq_len hx, sq_ix hx, sq_row hx, isKindL, n13, n14, n15, n16, n17, b13, b15, b16])
        | [u, v], hx =>
          cases h1 : betw 2 4 u <;> cases h2 : betw 1 64 v <;> rcases words2 w with rfl | rfl | rfl | ⟨w1, w2, w3⟩ <;> (try have v1 := beqs w3) <;> (unfold F__law_s_kind r__law_s_kind; rw [run_mk, yd_finish]; simp [slots0, *,  isT_seq, isT_seqN, run_sname, run_whole, sq_is hx, sq_len hx, sq_ix hx, sq_row hx, isKindL, n13, n14, n15, n16, n17, b13, b15, b16])
        | _ :: _ :: _ :: t, hx => rcases words2 w with rfl | rfl | rfl | ⟨w1, w2, w3⟩ <;> (try have v1 := beqs w3) <;> (unfold F__law_s_kind r__law_s_kind; rw [run_mk, yd_finish]; simp [slots0, *,  isT_seq, isT_seqN, sq_is hx, sq_len hx, sq_ix hx, sq_row hx, isKindL, n13, n14, n15, n16, n17, b13, b15, b16])
end M

/-! part P3 -/
set_option maxRecDepth 100000
set_option maxHeartbeats 3999999
namespace M
open FL PySem PySem.Spec
def isProgL (xs : List D) : Bool := decide (1 ≤ xs.length) && decide (xs.length ≤ 24) && xs.all isStep
def isProg (x : D) : Bool := match seqD x with
  | some xs => isProgL xs
  | none => false
def isLineL : List D → Bool
  | [a, b, c, d, e] => isName a && betw 1 9 b && betw 1 3 c && isKind d && isProg e
  | _ => false
def isLine (x : D) : Bool := match seqD x with
  | some xs => isLineL xs
  | none => false
theorem run_prog (x : D) (C : Store) : F_is_program.run [.d x] C = some (.ok (rd (.bl (isProg x))) C) := by
  rw [← yd_eq]
  match hx : seqD x with
  | none =>
    have h1 : isSeq x = false := by simp [isSeq, hx]
    have h2 : isProg x = false := by simp [isProg, hx]
    unfold F_is_program r_is_program; rw [run_mk, yd_finish]; simp [slots0, run_list, h1, h2]
  | some xs =>
    have e : isProg x = isProgL xs := by simp [isProg, hx]
    have k : compL [1] (tName 1) (ret true) (aD (fCall F_is_step (fCons (aDW (fVar 1)) fNil))) xs [some (W.d x), none] C = some (xs.map (fun d => D.bl (isStep d)), C) := by
      refine compL_all fun d hd => ⟨_, rfl, rfl, ?_⟩
      simp [wipeD, run_step]
    rw [e]
    unfold isProgL
    by_cases h1 : 1 ≤ xs.length
    · have h1' : (1 ≤ (xs.length : Int)) := by omega
      by_cases h2 : xs.length ≤ 24
      · have h2' : ((xs.length : Int) ≤ 24) := by omega
        generalize hg : xs.all isStep = g
        have hb := allF_map (p := isStep) (ds := xs)
        rw [hg] at hb
        generalize xs.map (fun d => D.bl (isStep d)) = ys at k hb
        unfold F_is_program r_is_program; rw [run_mk, yd_finish]; simp [slots0, run_list, sq_is hx, sq_len hx, sq_it hx, h1, h2, h1', h2', k, hb]
      · have h2' : ¬ ((xs.length : Int) ≤ 24) := by omega
        unfold F_is_program r_is_program; rw [run_mk, yd_finish]; simp [slots0, run_list, sq_is hx, sq_len hx, sq_it hx, h1, h2, h1', h2']
    · have h1' : ¬ (1 ≤ (xs.length : Int)) := by omega
      unfold F_is_program r_is_program; rw [run_mk, yd_finish]; simp [slots0, run_list, sq_is hx, sq_len hx, sq_it hx, h1, h1']
theorem run_sprog (x : D) (C : Store) : F__law_s_program.run [.d x] C = some (.ok (rd (.bl (isProg x))) C) := by
  rw [← yd_eq]
  match hx : seqD x with
  | none =>
    have h1 : isSeq x = false := by simp [isSeq, hx]
    have h2 : isProg x = false := by simp [isProg, hx]
    unfold F__law_s_program r__law_s_program; rw [run_mk, yd_finish]; simp [slots0, isT_seq, isT_seqN, h1, h2]
  | some xs =>
    have e : isProg x = isProgL xs := by simp [isProg, hx]
    have k : compL [1] (tName 1) (ret true) (aD (fCall F__law_s_step (fCons (aDW (fVar 1)) fNil))) xs [some (W.d x), none] C = some (xs.map (fun d => D.bl (isStep d)), C) := by
      refine compL_all fun d hd => ⟨_, rfl, rfl, ?_⟩
      simp [wipeD, run_sstep]
    rw [e]
    unfold isProgL
    by_cases h1 : 1 ≤ xs.length
    · have h1' : (1 ≤ (xs.length : Int)) := by omega
      by_cases h2 : xs.length ≤ 24
      · have h2' : ((xs.length : Int) ≤ 24) := by omega
        generalize hg : xs.all isStep = g
        have hb := allF_map (p := isStep) (ds := xs)
        rw [hg] at hb
        generalize xs.map (fun d => D.bl (isStep d)) = ys at k hb
        unfold F__law_s_program r__law_s_program; rw [run_mk, yd_finish]; simp [slots0, isT_seq, isT_seqN, sq_is hx, sq_len hx, sq_it hx, h1, h2, h1', h2', k, hb]
      · have h2' : ¬ ((xs.length : Int) ≤ 24) := by omega
        unfold F__law_s_program r__law_s_program; rw [run_mk, yd_finish]; simp [slots0, isT_seq, isT_seqN, sq_is hx, sq_len hx, sq_it hx, h1, h2, h1', h2']
    · have h1' : ¬ (1 ≤ (xs.length : Int)) := by omega
      unfold F__law_s_program r__law_s_program; rw [run_mk, yd_finish]; simp [slots0, isT_seq, isT_seqN, sq_is hx, sq_len hx, sq_it hx, h1, h1']
theorem five (xs : List D) : (∃ a b c d e, xs = [a, b, c, d, e]) ∨ (xs.length ≠ 5 ∧ isLineL xs = false) := by
  match xs with
  | [] => simp [isLineL]
  | [_] => simp [isLineL]
  | [_, _] => simp [isLineL]
  | [_, _, _] => simp [isLineL]
  | [_, _, _, _] => simp [isLineL]
  | [a, b, c, d, e] => exact .inl ⟨a, b, c, d, e, rfl⟩
  | _ :: _ :: _ :: _ :: _ :: _ :: _ => right; simp [isLineL]
theorem notLine (x : D) (h : rowOf 5 x = false) : isLine x = false := by
  unfold rowOf at h
  unfold isLine
  match hx : seqD x with
  | none => rfl
  | some xs =>
    rw [hx] at h
    rcases five xs with ⟨a, b, c, d, e, rfl⟩ | ⟨h1, h2⟩
    · simp at h
    · exact h2
theorem isLine5 (x : D) (h : rowOf 5 x = true) : ∃ a b c d e, seqD x = some [a, b, c, d, e] ∧ isLine x = (isName a && betw 1 9 b && betw 1 3 c && isKind d && isProg e) := by
  unfold rowOf at h
  match hx : seqD x with
  | none => rw [hx] at h; cases h
  | some xs =>
    rw [hx] at h
    rcases five xs with ⟨a, b, c, d, e, rfl⟩ | ⟨h1, h2⟩
    · exact ⟨a, b, c, d, e, rfl, by simp [isLine, hx, isLineL]⟩
    · simp [h1] at h
theorem run_line (x : D) (C : Store) : F_is_line.run [.d x] C = some (.ok (rd (.bl (isLine x))) C) := by
  rw [← yd_eq]
  cases h : rowOf 5 x with
  | false => unfold F_is_line r_is_line; rw [run_mk, yd_finish]; simp [slots0, row5, h, notLine x h]
  | true =>
    obtain ⟨a, b, c, d, e, hx, he⟩ := isLine5 x h
    rw [he]
    unfold F_is_line r_is_line; rw [run_mk, yd_finish]
    cases h1 : isName a <;> cases h2 : betw 1 9 b <;> cases h3 : betw 1 3 c <;> cases h4 : isKind d <;> simp [slots0, row5, h, sq_ix hx, run_name, run_betw, run_kind, run_prog, h1, h2, h3, h4]
theorem run_sline (x : D) (C : Store) : F__law_s_line.run [.d x] C = some (.ok (rd (.bl (isLine x))) C) := by
  rw [← yd_eq]
  cases h : rowOf 5 x with
  | false => unfold F__law_s_line r__law_s_line; rw [run_mk, yd_finish]; simp [slots0, lis5, h, notLine x h]
  | true =>
    obtain ⟨a, b, c, d, e, hx, he⟩ := isLine5 x h
    rw [he]
    unfold F__law_s_line r__law_s_line; rw [run_mk, yd_finish]
    cases h1 : isName a <;> cases h2 : betw 1 9 b <;> cases h3 : betw 1 3 c <;> cases h4 : isKind d <;> simp [slots0, lis5, h, sq_ix hx, run_sname, run_whole, run_skind, run_sprog, h1, h2, h3, h4]
end M

/-! part P4 -/
set_option maxRecDepth 100000
set_option maxHeartbeats 3999999
namespace M
open FL PySem PySem.Spec
def Spr (i n L : Nat) (C : Store) : Prop := C.length = L ∧ i < L ∧ ∃ a b c : Int, C[i]? = some (.lst [.int a, .int b, .int c]) ∧ 0 ≤ b ∧ b < 2147483647 ∧ 0 ≤ c ∧ c ≤ n
theorem spr_mono {i n m L : Nat} {C : Store} (h : Spr i n L C) (hm : n ≤ m) : Spr i m L C := by
  obtain ⟨h1, h2, a, b, c, h3, h4, h5, h6, h7⟩ := h
  exact ⟨h1, h2, a, b, c, h3, h4, h5, h6, by omega⟩
@[simp] theorem ixN30 : L2.ixN 3 0 = some 0 := rfl
@[simp] theorem ixN31 : L2.ixN 3 1 = some 1 := rfl
@[simp] theorem ixN32 : L2.ixN 3 2 = some 2 := rfl
theorem draw_ok {i n L : Nat} {C : Store} {m : Int} (h : Spr i n L C) (hn : n < 1000000000) (h0 : 0 < m) (h1 : m < 1073741824) : Yd (F__law_draw.run [.c i, .d (.int m)] C) fun r C' => ∃ k : Int, r = rd (.int k) ∧ 0 ≤ k ∧ k < m ∧ Spr i (n + 1) L C' := by
  obtain ⟨hl, hi, a, b, c, h3, h4, h5, h6, h7⟩ := h
  have hi' : i < C.length := by omega
  have g1 : ∀ c, (C.set i c)[i]? = some c := fun c => by rw [List.getElem?_set_self hi']
  have g2 : ∀ c c' : Cell, ((C.set i c).set i c').length = L := fun c c' => by simp [hl]
  have g3 : ∀ c : Cell, (C.set i c).length = L := fun c => by simp [hl]
  have em := @mod_ii
  unfold F__law_draw r__law_draw; rw [run_mk, yd_finish]
  by_cases ha : 0 < a
  · simp [slots0, h3, mod_ii h0, div_ii h0 h1, ha, g1]
    refine ⟨Int.emod_nonneg _ (by omega), Int.emod_lt_of_pos _ h0, ?_⟩
    rw [List.take_of_length_le (by rw [g3, hl]; omega)]
    exact ⟨g3 _, hi, a / m, b, c, g1 _, h4, h5, h6, by omega⟩
  · simp [slots0, h3, ha, g1]
    have p1 : mulF (.int 6364137) (.int (c + 1)) = some (rd (.int (6364137 * (c + 1)))) := mul_l (by decide)
    have p2 : powF (.int (b + 6364137 * (c + 1) + 1442695)) (.int 3) = some (rd (.int ((b + 6364137 * (c + 1) + 1442695) ^ 3))) := pow_ii (by omega) (by decide) (by decide)
    simp [p1, p2, mod_ii]
    generalize hM : (b + 6364137 * (c + 1) + 1442695) ^ 3 % 2147483647 = M
    have m0 : 0 ≤ M := by rw [← hM]; exact Int.emod_nonneg _ (by decide)
    have m1 : M < 2147483647 := by rw [← hM]; exact Int.emod_lt_of_pos _ (by decide)
    have p3 : mulF (.int M) (.int 48271) = some (rd (.int (M * 48271))) := mul_r (by decide)
    have p4 : mulF (.int 11) (.int (c + 1)) = some (rd (.int (11 * (c + 1)))) := mul_l (by decide)
    have p5 : powF (.int (M * 48271 + 11 * (c + 1))) (.int 3) = some (rd (.int ((M * 48271 + 11 * (c + 1)) ^ 3))) := pow_ii (by omega) (by decide) (by decide)
    simp [p3, p4, p5, mod_ii, div_ii, h0, h3, g1]
    refine ⟨Int.emod_nonneg _ (by omega), Int.emod_lt_of_pos _ h0, ?_⟩
    rw [List.take_of_length_le (by rw [g3, hl]; omega)]
    exact ⟨g3 _, hi, a, b, c + 1, g1 _, h4, h5, by omega, by omega⟩
theorem pick_ok {i n L : Nat} {C : Store} {xs : List D} (h : Spr i n L C) (hn : n < 1000000000) (h0 : 0 < xs.length) (h1 : xs.length < 1000000) : Yd (F__law_pick.run [.c i, .d (.lst xs)] C) fun r C' => ∃ y, y ∈ xs ∧ r = rd y ∧ Spr i (n + 1) L C' := by
  unfold F__law_pick r__law_pick; rw [run_mk, yd_finish]
  simp [slots0]
  refine yd_mono (draw_ok h hn (m := xs.length) (by omega) (by omega)) ?_
  rintro r C' ⟨k, rfl, hk0, hk1, hs⟩
  obtain ⟨j, rfl⟩ := Int.eq_ofNat_of_zero_le hk0
  have hj : j < xs.length := by omega
  have e : L2.atI xs (j : Int) = some xs[j] := by rw [atI_nat, List.getElem?_eq_getElem hj]
  have hl : C'.length = C.length := hs.1.trans h.1.symm
  simp [e]
  refine ⟨xs[j], List.getElem_mem hj, rfl, ?_⟩
  rw [← hl, List.take_length]
  exact hs
end M

/-! part P5 -/
set_option maxRecDepth 100000
set_option maxHeartbeats 3999999
namespace M
open FL PySem PySem.Spec
mutual
def norm : D → D
  | .lst xs => .lst (normL xs)
  | .tup xs => .lst (normL xs)
  | .scr ns => .lst (ns.map D.int)
  | .non => .non
  | .bl b => .bl b
  | .int i => .int i
  | .str z => .str z
def normL : List D → List D
  | [] => []
  | x :: xs => norm x :: normL xs
end
mutual
def cost : D → Nat
  | .lst xs => 1 + costL xs
  | .tup xs => 1 + costL xs
  | .scr _ => 1
  | _ => 0
def costL : List D → Nat
  | [] => 0
  | x :: xs => cost x + costL xs
end
mutual
def dep : D → Nat
  | .lst xs => 1 + depL xs
  | .tup xs => 1 + depL xs
  | .scr _ => 1
  | _ => 0
def depL : List D → Nat
  | [] => 0
  | x :: xs => max (dep x) (depL xs)
end
theorem normL_map : ∀ xs, normL xs = xs.map norm
  | [] => by simp [normL]
  | x :: xs => by simp [normL, normL_map xs]
theorem costL_map : ∀ xs, costL xs = (xs.map cost).sum
  | [] => by simp [costL]
  | x :: xs => by simp [costL, costL_map xs]
theorem depL_mem : ∀ {xs : List D} {x : D}, x ∈ xs → dep x ≤ depL xs
  | y :: ys, x, h => by
    simp only [depL]
    rcases List.mem_cons.mp h with rfl | h
    · omega
    · have := depL_mem h; omega
theorem ints_sum {ns : List Int} : ((ns.map D.int).map cost).sum = 0 := by
  induction ns with
  | nil => rfl
  | cons n ns ih => simp only [List.map_cons, List.sum_cons, ih, cost]
theorem sq_norm {x : D} {xs : List D} (h : seqD x = some xs) : norm x = .lst (xs.map norm) ∧ cost x = 1 + (xs.map cost).sum ∧ ∀ y ∈ xs, dep y + 1 ≤ dep x := by
  cases x <;> simp only [seqD, Option.some.injEq, reduceCtorEq] at h <;> subst h
  · refine ⟨by simp [norm, normL_map], by simp [cost, costL_map], fun y hy => ?_⟩
    have := depL_mem hy
    simp only [dep]; omega
  · refine ⟨by simp [norm, normL_map], by simp [cost, costL_map], fun y hy => ?_⟩
    have := depL_mem hy
    simp only [dep]; omega
  · refine ⟨?_, ?_, fun y hy => ?_⟩
    · simp only [norm, List.map_map]
      congr 1
    · simp only [cost, ints_sum]
    · obtain ⟨n, _, rfl⟩ := List.mem_map.mp hy
      simp [dep]
theorem noseq_norm {x : D} (h : seqD x = none) : norm x = x ∧ cost x = 0 ∧ dep x = 0 := by
  cases x <;> simp [seqD] at h <;> simp [norm, cost, dep]
theorem seq_norm (x : D) : seqD (norm x) = (seqD x).map (List.map norm) := by
  cases x <;> simp [norm, seqD, normL_map]
theorem name_norm (x : D) : isName (norm x) = isName x := by cases x <;> simp [norm, isName]
theorem betw_norm (lo hi : Int) (x : D) : betw lo hi (norm x) = betw lo hi x := by cases x <;> simp [norm, betw]
theorem str_norm {x : D} {w : Str} (h : norm x = .str w) : x = .str w := by cases x <;> simp [norm] at h; subst h; rfl
theorem stepL_norm (xs : List D) : isStepL (xs.map norm) = isStepL xs := by
  match xs with
  | [] => rfl
  | .str w :: [] => simp [norm, isStepL]
  | .str w :: [a] => simp [norm, isStepL, name_norm, betw_norm]
  | .str w :: [a, b] => simp [norm, isStepL, name_norm, betw_norm]
  | .str w :: a :: b :: c :: r => simp [norm, isStepL]
  | .non :: r => simp [norm, isStepL]
  | .bl _ :: r => simp [norm, isStepL]
  | .int _ :: r => simp [norm, isStepL]
  | .lst _ :: r => simp [norm, isStepL]
  | .tup _ :: r => simp [norm, isStepL]
  | .scr _ :: r => simp [norm, isStepL]
theorem kindL_norm (xs : List D) : isKindL (xs.map norm) = isKindL xs := by
  match xs with
  | [] => rfl
  | .str w :: [] => simp [norm, isKindL]
  | .str w :: [a] => simp [norm, isKindL, name_norm, betw_norm]
  | .str w :: [a, b] => simp [norm, isKindL, name_norm, betw_norm]
  | .str w :: a :: b :: c :: r => simp [norm, isKindL]
  | .non :: r => simp [norm, isKindL]
  | .bl _ :: r => simp [norm, isKindL]
  | .int _ :: r => simp [norm, isKindL]
  | .lst _ :: r => simp [norm, isKindL]
  | .tup _ :: r => simp [norm, isKindL]
  | .scr _ :: r => simp [norm, isKindL]
theorem step_norm (x : D) : isStep (norm x) = isStep x := by
  unfold isStep
  rw [seq_norm]
  cases seqD x <;> simp [stepL_norm]
theorem kind_norm (x : D) : isKind (norm x) = isKind x := by
  unfold isKind
  rw [seq_norm]
  cases seqD x <;> simp [kindL_norm]
theorem prog_norm (x : D) : isProg (norm x) = isProg x := by
  unfold isProg
  rw [seq_norm]
  cases seqD x with
  | none => rfl
  | some xs =>
    simp only [Option.map_some, isProgL, List.length_map, List.all_map]
    congr 2
    funext y
    exact step_norm y
theorem lineL_norm (xs : List D) : isLineL (xs.map norm) = isLineL xs := by
  rcases five xs with ⟨a, b, c, d, e, rfl⟩ | ⟨h1, h2⟩
  · simp [isLineL, name_norm, betw_norm, kind_norm, prog_norm]
  · rw [h2]
    rcases five (xs.map norm) with ⟨a, b, c, d, e, h⟩ | ⟨_, h⟩
    · have := congrArg List.length h
      simp at this
      exact (h1 this).elim
    · exact h
theorem line_norm (x : D) : isLine (norm x) = isLine x := by
  unfold isLine
  rw [seq_norm]
  cases seqD x <;> simp [lineL_norm]
theorem all2_norm {xs zs : List D} (h : All2 (fun x z => norm z = norm x) xs zs) : zs.map norm = xs.map norm := by
  induction h with
  | nil => rfl
  | cons h _ ih => simp [h, ih]
theorem loose_ok : ∀ {k : Nat} {x : D} {i n L : Nat} {C : Store}, dep x < k → Spr i n L C → n + cost x < 1000000000 → Yd ((F__law_loose k).run [.c i, .d x] C) fun r C' => ∃ z, r = rd z ∧ norm z = norm x ∧ Spr i (n + cost x) L C'
  | k + 1, x, i, n, L, C, hd, hs, hn => by
    have hnd : isT (tyN (lookD x)) "dict" = false := by cases x <;> rfl
    rw [F__law_loose_s]; unfold r__law_loose; rw [run_mk, yd_finish]
    match hx : seqD x with
    | none =>
      have h1 : isSeq x = false := by simp [isSeq, hx]
      obtain ⟨_, e2, _⟩ := noseq_norm hx
      simp [slots0, hnd, isT_seq, isT_seqN, h1, e2]
      exact hs
    | some xs =>
      obtain ⟨e1, e2, e3⟩ := sq_norm hx
      have hl := hs.1
      have q := compL_cnt (own := [4]) (t := tName 4) (c := FL.ret true) (e := aD (fCall (F__law_loose k) (fCons (aW (fVar 0)) (fCons (aDW (fVar 4)) fNil)))) (I := fun m C => Spr i m L C) (P := fun x z => norm z = norm x) (w := cost) (δ := [some (.c i), some (.d x), none, none, none]) (ds := xs) (n := n) (C := C)
        (fun d hd' m C' hm hI => ⟨_, rfl, rfl, by
          simp [wipeD]
          refine yd_mono (loose_ok (by have := e3 d hd'; omega) hI (by omega)) ?_
          rintro r C2 ⟨z, rfl, h1, h2⟩
          exact ⟨h1, h2⟩⟩) hs
      simp [slots0, hnd, isT_seq, isT_seqN, sq_is hx, sq_it hx]
      refine lc_mono q ?_
      rintro ys C2 ⟨hs2, ha⟩
      simp
      refine yd_mono (draw_ok hs2 (by omega) (m := 2) (by decide) (by decide)) ?_
      rintro r C3 ⟨b, rfl, hb0, hb1, hs3⟩
      have hl3 : C3.length = C.length := hs3.1.trans hl.symm
      have en : D.lst (ys.map norm) = norm x := by rw [e1, all2_norm ha]
      have ht : List.take C.length C3 = C3 := by rw [← hl3, List.take_length]
      have hs4 : Spr i (n + cost x) L C3 := spr_mono hs3 (by omega)
      by_cases hb : 0 < b
      · simp [hb, ht]
        exact ⟨by rw [norm, normL_map]; exact en, hs4⟩
      · simp [hb, ht]
        exact ⟨by rw [norm, normL_map]; exact en, hs4⟩
end M

/-! part P6 -/
set_option maxRecDepth 100000
set_option maxHeartbeats 3999999
namespace M
open FL PySem PySem.Spec
theorem big : 100000 ≤ sizeLine := by decide +kernel
theorem cut_pre {α : Type} {xs : List α} {k : Nat} : cutG xs none (some (k : Int)) = xs.take k := by
  unfold cutG
  rw [HT.sIx_none, HT.sIx_nat]
  simp
theorem cut_suf {α : Type} {xs : List α} {k : Nat} : cutG xs (some (k : Int)) none = xs.drop k := by
  unfold cutG
  rw [HT.sIx_none, HT.sIx_nat]
  by_cases h : k ≤ xs.length
  · rw [Nat.min_eq_left h, List.take_of_length_le (by rw [List.length_drop]; omega)]
  · rw [Nat.min_eq_right (by omega), List.drop_of_length_le (by omega), List.drop_of_length_le (by omega)]
    simp
theorem sl_pre (xs : List D) (k : Nat) : slF (.lst xs) none (some (k : Int)) = some (.new (.lst (xs.take k))) := by
  show some (Res.new (.lst (cutG xs none (some (k : Int))))) = _
  rw [cut_pre]
theorem sl_suf (xs : List D) (k : Nat) : slF (.lst xs) (some (k : Int)) none = some (.new (.lst (xs.drop k))) := by
  show some (Res.new (.lst (cutG xs (some (k : Int)) none))) = _
  rw [cut_suf]
theorem sl_preT (xs : List D) (k : Nat) : slF (.tup xs) none (some (k : Int)) = some (rd (.tup (xs.take k))) := by
  show some (rd (.tup (cutG xs none (some (k : Int))))) = _
  rw [cut_pre]
theorem sl_8 (xs : List D) : slF (.lst xs) none (some 8) = some (.new (.lst (xs.take 8))) := sl_pre xs 8
theorem sl_8' (xs : List D) : slF (.lst xs) (some 8) none = some (.new (.lst (xs.drop 8))) := sl_suf xs 8
theorem mul_3 {xs : List D} (h : xs.length ≤ 1000) : mulF (.lst xs) (.int 3) = some (.new (.lst (xs ++ (xs ++ xs)))) := by
  have b := big
  have e : (3 : Int).toNat = 3 := rfl
  have c : -(2 ^ 63) ≤ (3 : Int) ∧ (3 : Int) < 2 ^ 63 ∧ xs.length * (3 : Int).toNat ≤ sizeLine := ⟨by decide, by decide, by rw [e]; omega⟩
  refine (if_pos c).trans ?_
  rw [e]
  simp [List.replicate]
theorem mul_2 {xs : List D} (h : xs.length ≤ 1000) : mulF (.lst xs) (.int 2) = some (.new (.lst (xs ++ xs))) := by
  have b := big
  have e : (2 : Int).toNat = 2 := rfl
  have c : -(2 ^ 63) ≤ (2 : Int) ∧ (2 : Int) < 2 ^ 63 ∧ xs.length * (2 : Int).toNat ≤ sizeLine := ⟨by decide, by decide, by rw [e]; omega⟩
  refine (if_pos c).trans ?_
  rw [e]
  simp [List.replicate]
theorem mul_24 {xs : List D} (h : xs.length ≤ 1000) : mulF (.lst xs) (.int 24) = some (.new (.lst (List.replicate 24 xs).flatten)) := by
  have b := big
  have e : (24 : Int).toNat = 24 := rfl
  have c : -(2 ^ 63) ≤ (24 : Int) ∧ (24 : Int) < 2 ^ 63 ∧ xs.length * (24 : Int).toNat ≤ sizeLine := ⟨by decide, by decide, by rw [e]; omega⟩
  refine (if_pos c).trans ?_
  rw [e]
theorem mul_25 {xs : List D} (h : xs.length ≤ 1000) : mulF (.lst xs) (.int 25) = some (.new (.lst (List.replicate 25 xs).flatten)) := by
  have b := big
  have e : (25 : Int).toNat = 25 := rfl
  have c : -(2 ^ 63) ≤ (25 : Int) ∧ (25 : Int) < 2 ^ 63 ∧ xs.length * (25 : Int).toNat ≤ sizeLine := ⟨by decide, by decide, by rw [e]; omega⟩
  refine (if_pos c).trans ?_
  rw [e]
theorem add_lst {xs ys : List D} (h : xs.length + ys.length ≤ 100000) : addF (.lst xs) (.lst ys) = some (.new (.lst (xs ++ ys))) := if_pos (Nat.le_trans h big)
theorem len {n : Nat} (h : n ≤ 100000) : n ≤ sizeLine := Nat.le_trans h big
theorem allM {p : D → Bool} {xs : List D} {y : D} (h : xs.all p = true) (hy : y ∈ xs) : p y = true := List.all_eq_true.mp h y hy
theorem dname_ok {i n L : Nat} {C : Store} (h : Spr i n L C) (hn : n < 1000000000) : Yd (F__law_s_drawn_name.run [.c i] C) fun r C' => ∃ y, isStr y = true ∧ r = rd y ∧ Spr i (n + 1) L C' := by
  unfold F__law_s_drawn_name r__law_s_drawn_name; rw [run_mk, yd_finish]
  simp [slots0, len, mul_3, add_lst]
  refine yd_mono (pick_ok h hn (by simp) (by simp)) ?_
  rintro r C' ⟨y, hy, rfl, hs⟩
  have hl : C'.length = C.length := hs.1.trans h.1.symm
  simp
  refine ⟨y, allM (p := isStr) (by rfl) hy, rfl, ?_⟩
  rw [← hl, List.take_length]
  exact hs
theorem flat_cost {x : D} (h : flatD x = true) : cost x = 0 ∧ dep x = 0 := by
  cases x <;> simp [flatD] at h <;> simp [cost, dep]
theorem str_flat {x : D} (h : isStr x = true) : flatD x = true := by
  cases x <;> simp [isStr] at h <;> simp [flatD]
def sm (x : D) : Bool := decide (cost x ≤ 2) && decide (dep x ≤ 2)
theorem take_all {α : Type} {xs : List α} {p : α → Bool} {k : Nat} (h : xs.all p = true) : (xs.take k).all p = true := by
  rw [List.all_eq_true] at h ⊢
  exact fun y hy => h y (List.mem_of_mem_take hy)
theorem drop_all {α : Type} {xs : List α} {p : α → Bool} {k : Nat} (h : xs.all p = true) : (xs.drop k).all p = true := by
  rw [List.all_eq_true] at h ⊢
  exact fun y hy => h y (List.mem_of_mem_drop hy)
theorem dstep_ok {i n L : Nat} {C : Store} (h : Spr i n L C) (hn : n + 10 < 1000000000) : Yd (F__law_s_drawn_step.run [.c i] C) fun r C' => ∃ y, sm y = true ∧ r = rd y ∧ Spr i (n + 5) L C' := by
  unfold F__law_s_drawn_step r__law_s_drawn_step; rw [run_mk, yd_finish]
  simp [slots0]
  refine yd_mono (dname_ok h (by omega)) ?_
  rintro r C1 ⟨name, hname, rfl, h1⟩
  have fn := flat_cost (str_flat hname)
  simp [len]
  refine yd_mono (pick_ok h1 (by omega) (by simp) (by simp)) ?_
  rintro r C2 ⟨num, hnum, rfl, h2⟩
  have fm := flat_cost (allM (p := flatD) (by rfl) hnum)
  simp [len]
  refine yd_mono (draw_ok h2 (m := 10) (by omega) (by omega) (by omega)) ?_
  rintro r C3 ⟨k1, rfl, _, _, h3⟩
  simp [len]
  refine yd_mono (draw_ok h3 (m := 2001) (by omega) (by omega) (by omega)) ?_
  rintro r C4 ⟨k2, rfl, _, _, h4⟩
  simp [len, add_lst, sl_8, sl_8', mul_3]
  refine yd_mono (pick_ok h4 (by omega) (by simp) (by simp)) ?_
  rintro r C5 ⟨y, hy, rfl, h5⟩
  have hl : C5.length = C.length := h5.1.trans h.1.symm
  simp
  refine ⟨y, allM (p := sm) (by simp [sm, cost, dep, costL, depL, fn, fm]) hy, rfl, ?_⟩
  rw [← hl, List.take_length]
  exact h5
theorem dkind_ok {i n L : Nat} {C : Store} (h : Spr i n L C) (hn : n + 10 < 1000000000) : Yd (F__law_s_drawn_kind.run [.c i] C) fun r C' => ∃ y, sm y = true ∧ r = rd y ∧ Spr i (n + 7) L C' := by
  unfold F__law_s_drawn_kind r__law_s_drawn_kind; rw [run_mk, yd_finish]
  simp [slots0, len]
  refine yd_mono (pick_ok h (by omega) (by simp) (by simp)) ?_
  rintro r C1 ⟨name, hname, rfl, h1⟩
  have fn := flat_cost (allM (p := flatD) (by rfl) hname)
  simp [len]
  refine yd_mono (pick_ok h1 (by omega) (by simp) (by simp)) ?_
  rintro r C2 ⟨num, hnum, rfl, h2⟩
  have fm := flat_cost (allM (p := flatD) (by rfl) hnum)
  simp [len]
  refine yd_mono (draw_ok h2 (m := 64) (by omega) (by omega) (by omega)) ?_
  rintro r C3 ⟨k1, rfl, _, _, h3⟩
  simp [len]
  refine yd_mono (draw_ok h3 (m := 64) (by omega) (by omega) (by omega)) ?_
  rintro r C4 ⟨k2, rfl, _, _, h4⟩
  simp [len]
  refine yd_mono (draw_ok h4 (m := 3) (by omega) (by omega) (by omega)) ?_
  rintro r C4 ⟨k2, rfl, _, _, h5⟩
  simp [len]
  refine yd_mono (draw_ok h5 (m := 64) (by omega) (by omega) (by omega)) ?_
  rintro r C4 ⟨k2, rfl, _, _, h6⟩
  simp [len, add_lst, mul_2]
  refine yd_mono (pick_ok h6 (by omega) (by simp) (by simp)) ?_
  rintro r C5 ⟨y, hy, rfl, h7⟩
  have hl : C5.length = C.length := h7.1.trans h.1.symm
  simp
  refine ⟨y, allM (p := sm) (by simp [sm, cost, dep, costL, depL, fn, fm]) hy, rfl, ?_⟩
  rw [← hl, List.take_length]
  exact h7
end M

/-! part P7 -/
set_option maxRecDepth 100000
set_option maxHeartbeats 3999999
namespace M
open FL PySem PySem.Spec
def zipO : D → D → Option (List D)
  | .lst xs, .lst ys => some (zipD xs ys)
  | .tup xs, .tup ys => some (zipD xs ys)
  | _, _ => none
@[simp] theorem zipO_l {xs ys : List D} : zipO (.lst xs) (.lst ys) = some (zipD xs ys) := rfl
@[simp ↓] theorem yd_zip {f g : EF D} {δ : Slots} {C : Store} {Q : List D → Store → Prop} : Yd (fZip f g δ C) Q ↔ Yd (f δ C) fun x C1 => Yd (g δ C1) fun y C2 => Od (zipO x y) fun ds => Q ds C2 := by
  unfold fZip
  rw [yd_bnd]
  refine yd_iff fun x C1 => ?_
  rw [yd_bnd]
  refine yd_iff fun y C2 => ?_
  cases x <;> cases y <;> exact Iff.rfl
theorem zip_self (xs : List D) : zipD xs xs = xs.map fun y => .tup [y, y] := by
  unfold zipD
  induction xs with
  | nil => rfl
  | cons x xs ih => simp only [List.zip_cons_cons, List.map_cons, ih]
theorem same_bl {k : Nat} {b : Bool} {C : Store} : (F__law_same (k + 1)).run [.d (.bl b), .d (.bl b)] C = some (.ok (rd (.bl true)) C) := by
  rw [← yd_eq]
  rw [F__law_same_s]; unfold r__law_same; rw [run_mk, yd_finish]
  simp [slots0, isT, FL.isNon]
theorem same_str {k : Nat} {b : Str} {C : Store} : (F__law_same (k + 1)).run [.d (.str b), .d (.str b)] C = some (.ok (rd (.bl true)) C) := by
  rw [← yd_eq]
  rw [F__law_same_s]; unfold r__law_same; rw [run_mk, yd_finish]
  simp [slots0, isT, FL.isNon]
theorem same_lst {k : Nat} {xs : List D} {C : Store} (h : ∀ y ∈ xs, ∀ C, (F__law_same k).run [.d y, .d y] C = some (.ok (rd (.bl true)) C)) : (F__law_same (k + 1)).run [.d (.lst xs), .d (.lst xs)] C = some (.ok (rd (.bl true)) C) := by
  rw [← yd_eq]
  have q : compL [3, 4] (tTupF 2 (tConsF (tName 3) (tConsF (tName 4) tNilF))) (FL.ret true) (aD (fCall (F__law_same k) (fCons (aDW (fVar 3)) (fCons (aDW (fVar 4)) fNil)))) (xs.map fun y => .tup [y, y]) [some (.d (.lst xs)), some (.d (.lst xs)), none, none, none] C = some ((xs.map fun y => D.tup [y, y]).map (fun _ => D.bl true), C) := by
    refine compL_all fun d hd => ?_
    obtain ⟨y, hy, rfl⟩ := List.mem_map.mp hd
    refine ⟨_, rfl, rfl, ?_⟩
    simp [wipeD, h y hy]
  have hb := allF_map (p := fun _ => true) (ds := xs.map fun y => D.tup [y, y])
  generalize (xs.map fun y => D.tup [y, y]).map (fun _ => D.bl true) = ys at q hb
  rw [F__law_same_s]; unfold r__law_same; rw [run_mk, yd_finish]
  simp [slots0, isT, zip_self, q, hb]
def kadd (ks : List Str) (z : Str) : List Str := if z ∈ ks then ks else ks ++ [z]
theorem putG_keys {kvs : List (L2.Key × D)} {ks : List Str} {z : Str} {v : D} (h : kvs.map (·.1) = ks.map .inr) : (putG kvs (.inr z) v).map (·.1) = (kadd ks z).map .inr := by
  have e : (kvs.any fun kv => decide (kv.1 = .inr z)) = decide (z ∈ ks) := by
    have : (kvs.any fun kv => decide (kv.1 = .inr z)) = (kvs.map (·.1)).any (fun k => decide (k = .inr z)) := by rw [List.any_map]; rfl
    rw [this, h, List.any_map]
    rw [Bool.eq_iff_iff]
    simp
  unfold putG kadd
  rw [e]
  by_cases hz : z ∈ ks
  · simp only [hz, decide_true, if_true, List.map_map]
    rw [← h]
    refine List.map_congr_left fun kv _ => ?_
    simp only [Function.comp]
    split <;> rfl
  · simp [hz, h]
theorem kadd_len {ks : List Str} {z : Str} : (kadd ks z).length ≤ ks.length + 1 := by
  unfold kadd; split <;> simp
theorem kadd_mem {ks : List Str} {z y : Str} (h : y ∈ kadd ks z) : y ∈ ks ∨ y = z := by
  unfold kadd at h
  split at h
  · exact .inl h
  · simpa using h
def dd (zs : List Str) : List Str := zs.foldl kadd []
theorem fold_len : ∀ {zs ks : List Str}, (zs.foldl kadd ks).length ≤ ks.length + zs.length
  | [], ks => by simp
  | z :: zs, ks => by
    have := fold_len (zs := zs) (ks := kadd ks z)
    have := kadd_len (ks := ks) (z := z)
    simp only [List.foldl_cons, List.length_cons]; omega
theorem fold_mem : ∀ {zs ks : List Str} {y : Str}, y ∈ zs.foldl kadd ks → y ∈ ks ∨ y ∈ zs
  | [], ks, y, h => .inl h
  | z :: zs, ks, y, h => by
    rcases fold_mem (zs := zs) h with h | h
    · rcases kadd_mem h with h | h
      · exact .inl h
      · exact .inr (by simp [h])
    · exact .inr (by simp [h])
theorem asSs_str : ∀ (ks : List Str), asSs (ks.map D.str) = some ks
  | [] => rfl
  | k :: ks => by simp only [List.map_cons, asSs, asSs_str ks, Option.map_some]
theorem sort_dct {kvs : List (L2.Key × D)} {zs : List Str} (h : kvs.map (·.1) = (dd zs).map .inr) (hl : zs.length ≤ 30) (hs : ∀ z ∈ zs, z.length ≤ 8) : sortF (.dct kvs) = some (.new (.lst ((sortS (dd zs)).map D.str))) := by
  have e : (kvs.map fun kv => keyS kv.1) = (dd zs).map D.str := by
    have : (kvs.map fun kv => keyS kv.1) = (kvs.map (·.1)).map keyS := by rw [List.map_map]; rfl
    rw [this, h, List.map_map]
    rfl
  show (asSs (kvs.map fun kv => keyS kv.1)).bind _ = _
  rw [e, asSs_str]
  have l := fold_len (zs := zs) (ks := [])
  simp only [List.length_nil] at l
  refine if_pos ⟨by unfold dd; omega, ?_⟩
  rw [List.all_eq_true]
  intro z hz
  rcases fold_mem (zs := zs) hz with h | h
  · cases h
  · have := hs z h
    exact decide_eq_true (len (by omega))
theorem compDC_keys {own : List Nat} {t : TF} {c : EF Bool} {e v : EF D} {kf : D → Option Str} {δ : Slots} {C : Store} : ∀ {ds : List D} {acc : List (L2.Key × D)} {ks : List Str}, (∀ d ∈ ds, ∃ δ1, t d (wipeD δ own) = some δ1 ∧ c δ1 C = some (.ok (kf d).isSome C) ∧ ∀ z, kf d = some z → e δ1 C = some (.ok (.str z) C) ∧ ∃ x, v δ1 C = some (.ok x C)) → acc.map (·.1) = ks.map .inr → Lc (compDC own t c e v ds δ C acc) fun r C' => r.map (·.1) = ((ds.filterMap kf).foldl kadd ks).map .inr ∧ C' = C
  | [], acc, ks, _, hk => ⟨hk, rfl⟩
  | d :: ds, acc, ks, h, hk => by
    obtain ⟨δ1, h1, h2, h3⟩ := h d (List.mem_cons_self ..)
    have ih := fun {acc ks} => compDC_keys (own := own) (t := t) (c := c) (e := e) (v := v) (kf := kf) (δ := δ) (C := C) (ds := ds) (acc := acc) (ks := ks) fun d hd => h d (List.mem_cons_of_mem _ hd)
    unfold compDC
    cases hz : kf d with
    | none =>
      simp only [h1, h2, hz, Option.isSome_none]
      rw [List.filterMap_cons_none hz]
      exact ih hk
    | some z =>
      obtain ⟨e1, x, e2⟩ := h3 z hz
      simp only [h1, h2, hz, Option.isSome_some, e1, e2, asK]
      rw [List.filterMap_cons_some hz]
      exact ih (putG_keys hk)
end M

/-! part P8 -/
set_option maxRecDepth 100000
set_option maxHeartbeats 3999999
namespace M
open FL PySem PySem.Spec
/-- a right step: its word, its name -/
theorem step_shape {d : D} (h : isStep d = true) : ∃ w r, seqD d = some (.str w :: r) ∧ ((w = "take" ∨ w = "put" ∨ w = "ring") → ∃ z r', r = .str z :: r' ∧ z.length ≤ 8) := by
  unfold isStep at h
  match hd : seqD d with
  | none => rw [hd] at h; cases h
  | some xs =>
    rw [hd] at h
    match xs, h with
    | .str w :: r, h =>
      refine ⟨w, r, rfl, fun hw => ?_⟩
      have nm : ∀ u, isName u = true → ∃ z, u = .str z ∧ z.length ≤ 8 := by
        intro u hu
        cases u with
        | str z =>
          refine ⟨z, rfl, ?_⟩
          have hl : z.length = z.cps.toList.length := by simp [Str.length]
          have hu : isNameL z.cps.toList = true := hu
          rw [hl]
          match hz : z.cps.toList with
          | [] => simp
          | c :: r =>
            rw [hz] at hu
            simp [isNameL] at hu
            simp; omega
        | _ => cases hu
      rcases hw with rfl | rfl | rfl
      · match r, h with
        | [u], h =>
          simp [isStepL, n2, n3] at h
          obtain ⟨z, rfl, hz⟩ := nm u h
          exact ⟨z, [], rfl, hz⟩
        | [], h => simp [isStepL, n2, n3] at h
        | _ :: _ :: _, h => simp [isStepL, n2, n3] at h
      · match r, h with
        | [u, v], h =>
          simp [isStepL, n7, n8, n9, n10] at h
          obtain ⟨z, rfl, hz⟩ := nm u h.1
          exact ⟨z, [v], rfl, hz⟩
        | [], h => simp [isStepL, n7, n8, n9, n10] at h
        | [_], h => simp [isStepL, n7, n8, n9, n10] at h
        | _ :: _ :: _ :: _, h => simp [isStepL, n7, n8, n9, n10] at h
      · match r, h with
        | [u], h =>
          simp [isStepL, n4, n5, n6] at h
          obtain ⟨z, rfl, hz⟩ := nm u h
          exact ⟨z, [], rfl, hz⟩
        | [], h => simp [isStepL, n4, n5, n6] at h
        | _ :: _ :: _, h => simp [isStepL, n4, n5, n6] at h
def kfL (p : Str → Bool) : List D → Option Str
  | .str w :: .str z :: _ => if p w then some z else none
  | _ => none
def kf (p : Str → Bool) (d : D) : Option Str := (seqD d).bind (kfL p)
def pCell (w : Str) : Bool := decide (w = "take") || decide (w = "put")
def pRing (w : Str) : Bool := w == "ring"
theorem kfL_norm (p : Str → Bool) (xs : List D) : kfL p (xs.map norm) = kfL p xs := by
  match xs with
  | [] => rfl
  | [a] => cases a <;> simp [norm, kfL]
  | a :: b :: r => cases a <;> cases b <;> simp [norm, kfL]
theorem kf_norm (p : Str → Bool) (d : D) : kf p (norm d) = kf p d := by
  unfold kf
  rw [seq_norm]
  cases seqD d <;> simp [kfL_norm]
theorem keys_norm {p : Str → Bool} {xs ys : List D} (h : xs.map norm = ys.map norm) : xs.filterMap (kf p) = ys.filterMap (kf p) := by
  have e : ∀ xs : List D, xs.filterMap (kf p) = (xs.map norm).filterMap (kf p) := fun xs => by
    rw [List.filterMap_map]
    congr 1
    funext d
    exact (kf_norm p d).symm
  rw [e xs, e ys, h]
theorem kf_shape {d : D} (h : isStep d = true) {p : Str → Bool} (hp : ∀ w, p w = true → w = "take" ∨ w = "put" ∨ w = "ring") : ∃ w r, seqD d = some (.str w :: r) ∧ (kf p d).isSome = p w ∧ ∀ z, kf p d = some z → (∃ r', r = .str z :: r') ∧ z.length ≤ 8 := by
  obtain ⟨w, r, h1, h2⟩ := step_shape h
  refine ⟨w, r, h1, ?_, ?_⟩
  · unfold kf
    rw [h1]
    cases hw : p w with
    | false =>
      match r with
      | [] => rfl
      | a :: r => cases a <;> simp [kfL, hw]
    | true =>
      obtain ⟨z, r', rfl, _⟩ := h2 (hp w hw)
      simp [kfL, hw]
  · intro z hz
    unfold kf at hz
    rw [h1] at hz
    match r, hz with
    | .str z' :: r', hz =>
      simp [kfL] at hz
      obtain ⟨hw, rfl⟩ := hz
      obtain ⟨y, r2, e, hy⟩ := h2 (hp w hw)
      cases e
      exact ⟨⟨r', rfl⟩, hy⟩
    | [], hz => cases hz
    | .non :: _, hz => cases hz
    | .bl _ :: _, hz => cases hz
    | .int _ :: _, hz => cases hz
    | .lst _ :: _, hz => cases hz
    | .tup _ :: _, hz => cases hz
    | .scr _ :: _, hz => cases hz
theorem hpC : ∀ w, pCell w = true → w = "take" ∨ w = "put" ∨ w = "ring" := fun w h => by
  simp [pCell] at h
  rcases h with h | h <;> simp [h]
theorem hpR : ∀ w, pRing w = true → w = "take" ∨ w = "put" ∨ w = "ring" := fun w h => by
  simp [pRing] at h
  simp [h]
def keyOf (p : Str → Bool) (xs : List D) : D := .lst ((sortS (dd (xs.filterMap (kf p)))).map D.str)
theorem keys_len {p : Str → Bool} {xs : List D} : (xs.filterMap (kf p)).length ≤ xs.length := List.length_filterMap_le _ _
theorem keys_small {p : Str → Bool} (hp : ∀ w, p w = true → w = "take" ∨ w = "put" ∨ w = "ring") {xs : List D} (h : xs.all isStep = true) : ∀ z ∈ xs.filterMap (kf p), z.length ≤ 8 := by
  intro z hz
  obtain ⟨d, hd, hk⟩ := List.mem_filterMap.mp hz
  obtain ⟨w, r, _, _, h3⟩ := kf_shape (List.all_eq_true.mp h d hd) hp
  exact (h3 z hk).2
theorem run_cells {x : D} {xs : List D} (hx : seqD x = some xs) (h : xs.all isStep = true) (hl : xs.length ≤ 24) (C : Store) : F_cells_in.run [.d x] C = some (.ok (rd (keyOf pCell xs)) C) := by
  rw [← yd_eq]
  have z2 : 2 ≤ sizeLine := len (by omega)
  have q := compDC_keys (own := [1]) (t := tName 1) (c := fIn false (aD (fIx (fVar 1) (aD (FL.ret (rd (.int 0)))))) (fTup (fCons (aD (FL.ret (rd (.str "take")))) (fCons (aD (FL.ret (rd (.str "put")))) fNil)))) (e := aD (fIx (fVar 1) (aD (FL.ret (rd (.int 1)))))) (v := aD (FL.ret (rd (.bl true)))) (kf := kf pCell) (δ := [some (.d x), none]) (C := C) (ds := xs) (acc := []) (ks := []) (fun d hd => by
    obtain ⟨w, r, h1, h2, h3⟩ := kf_shape (List.all_eq_true.mp h d hd) hpC
    refine ⟨_, rfl, ?_, ?_⟩
    · rw [← yd_eq, h2]
      simp [wipeD, sq_ix h1, z2, inD_s2, pCell]
    · intro z hz
      obtain ⟨⟨r', rfl⟩, _⟩ := h3 z hz
      refine ⟨?_, .bl true, rfl⟩
      rw [← yd_eq]
      simp [wipeD, sq_ix h1]) rfl
  unfold F_cells_in r_cells_in; rw [run_mk, yd_finish]
  simp [slots0, sq_it hx]
  refine lc_mono q ?_
  rintro r C' ⟨h1, rfl⟩
  have l := keys_len (p := pCell) (xs := xs)
  simp [sort_dct (zs := xs.filterMap (kf pCell)) h1 (by omega) (keys_small hpC h)]
  rfl
theorem run_rung {x : D} {xs : List D} (hx : seqD x = some xs) (h : xs.all isStep = true) (hl : xs.length ≤ 24) (C : Store) : F_rung_in.run [.d x] C = some (.ok (rd (keyOf pRing xs)) C) := by
  rw [← yd_eq]
  have q := compDC_keys (own := [1]) (t := tName 1) (c := fCmp (cmpF .Eq) (aD (fIx (fVar 1) (aD (FL.ret (rd (.int 0)))))) (aD (FL.ret (rd (.str "ring"))))) (e := aD (fIx (fVar 1) (aD (FL.ret (rd (.int 1)))))) (v := aD (FL.ret (rd (.bl true)))) (kf := kf pRing) (δ := [some (.d x), none]) (C := C) (ds := xs) (acc := []) (ks := []) (fun d hd => by
    obtain ⟨w, r, h1, h2, h3⟩ := kf_shape (List.all_eq_true.mp h d hd) hpR
    refine ⟨_, rfl, ?_, ?_⟩
    · rw [← yd_eq, h2]
      simp [wipeD, sq_ix h1, pRing]
    · intro z hz
      obtain ⟨⟨r', rfl⟩, _⟩ := h3 z hz
      refine ⟨?_, .bl true, rfl⟩
      rw [← yd_eq]
      simp [wipeD, sq_ix h1]) rfl
  unfold F_rung_in r_rung_in; rw [run_mk, yd_finish]
  simp [slots0, sq_it hx]
  refine lc_mono q ?_
  rintro r C' ⟨h1, rfl⟩
  have l := keys_len (p := pRing) (xs := xs)
  simp [sort_dct (zs := xs.filterMap (kf pRing)) h1 (by omega) (keys_small hpR h)]
  rfl
end M

/-! part P9 -/
set_option maxRecDepth 100000
set_option maxHeartbeats 3999999
namespace M
open FL PySem PySem.Spec
def Pst (a b : Option W) (i n L : Nat) (fl : Fl) (C' : Store) : Prop := ∃ s3 s4 s5 s6 s7 s8 s9 s10 s11 s12 s13 s14 : Option W, fl = .nx [a, b, some (.c i), s3, s4, s5, s6, s7, s8, s9, s10, s11, s12, s13, s14] ∧ Spr i n L C'
theorem sl_23 (xs : List D) : slF (.lst xs) none (some 23) = some (.new (.lst (xs.take 23))) := sl_pre xs 23
theorem sl_3 (xs : List D) : slF (.lst xs) none (some 3) = some (.new (.lst (xs.take 3))) := sl_pre xs 3
theorem sl_1 (xs : List D) : slF (.lst xs) none (some 1) = some (.new (.lst (xs.take 1))) := sl_pre xs 1
theorem sl_0 (xs : List D) : slF (.lst xs) none (some 0) = some (.new (.lst (xs.take 0))) := sl_pre xs 0
theorem sl_4 (xs : List D) : slF (.tup xs) none (some 4) = some (rd (.tup (xs.take 4))) := sl_preT xs 4
theorem same_bls {k : Nat} {bs : List D} {C : Store} (h : bs.all (fun d => (asB d).isSome) = true) : (F__law_same (k + 2)).run [.d (.lst bs), .d (.lst bs)] C = some (.ok (rd (.bl true)) C) := by
  refine same_lst fun y hy C => ?_
  have := allM h hy
  cases y with
  | bl b => exact same_bl
  | _ => cases this
theorem line_cut {a b c d : D} : isLine (.tup [a, b, c, d]) = false := notLine _ rfl
theorem line_six {a b c d e f : D} : isLine (.lst [a, b, c, d, e, f]) = false := notLine _ rfl
section
variable {a b : Option W} {i n L : Nat} {C : Store} {s3 s4 s5 s6 s7 s8 s9 s10 s11 s12 s13 s14 : Option W}
theorem t1_ok {l0 l1 l2 l3 l4 b0 b1 b2 b3 b4 : D} (h : Spr i n L C) (hn : n + 100 < 1000000000) (hb : isLine (.tup [b0, b1, b2, b3, b4]) = true) (hc : cost (.tup [b0, b1, b2, b3, b4]) ≤ 20) (hd : dep (.tup [b0, b1, b2, b3, b4]) ≤ 5) :
    Yd (r_law_t1 [a, b, some (.c i), s3, s4, s5, s6, s7, s8, s9, s10, s11, some (.d (.tup [l0, l1, l2, l3, l4])), some (.d (.tup [b0, b1, b2, b3, b4])), s14] C) (Pst a b i (n + 20) L) := by
  unfold r_law_t1
  simp [run_line]
  refine yd_mono (loose_ok (by omega) h (by omega)) ?_
  rintro r C1 ⟨z, rfl, hz, h1⟩
  have e : isLine z = true := by rw [← line_norm, hz, line_norm, hb]
  simp [run_line, sl_4, len, add_lst, line_cut, line_six, run_sline, e, same_bls (k := 4), asB]
  exact ⟨s3, s4, s5, s6, s7, s8, s9, s10, s11, _, _, s14, rfl, spr_mono h1 (by omega)⟩
structure Right (rt : List D) : Prop where
  st : rt.all isStep = true
  sm : rt.all sm = true
  len : rt.length ≤ 24
theorem costL_le : ∀ {xs : List D}, xs.all sm = true → costL xs ≤ 2 * xs.length
  | [], _ => by simp [costL]
  | x :: xs, h => by
    rw [List.all_cons, Bool.and_eq_true] at h
    have := costL_le h.2
    have q := h.1
    simp [sm] at q
    simp only [costL, List.length_cons]; omega
theorem depL_le : ∀ {xs : List D}, xs.all sm = true → depL xs ≤ 2
  | [], _ => by simp [depL]
  | x :: xs, h => by
    rw [List.all_cons, Bool.and_eq_true] at h
    have := depL_le h.2
    have q := h.1
    simp [sm] at q
    simp only [depL]; omega
def wk : D := .tup [.str "work"]
theorem wk_st : isStep wk = true := by simp [wk, isStep, seqD, isStepL]
theorem wk_sm : sm wk = true := by simp [wk, sm, cost, dep, costL, depL]
theorem wk_prog {xs : List D} (h : xs.all isStep = true) (hl : xs.length ≤ 20) : isProg (.lst (xs ++ [wk])) = true := by
  simp [isProg, seqD, isProgL, wk_st]
  refine ⟨by omega, ?_⟩
  simpa using h
theorem t2_ok {rt : List D} {l0 l1 l2 l3 l4 : D} (h : Spr i n L C) (hn : n + 200 < 1000000000) (hr : Right rt) :
    Yd (r_law_t2 [a, b, some (.c i), s3, s4, s5, s6, some (.d (.lst rt)), s8, s9, s10, s11, some (.d (.tup [l0, l1, l2, l3, l4])), s13, s14] C) (Pst a b i (n + 30) L) := by
  unfold r_law_t2
  simp [len]
  refine yd_mono (pick_ok h (by omega) (by simp) (by simp)) ?_
  rintro r C1 ⟨y, hy, rfl, h1⟩
  simp
  refine yd_mono (draw_ok h1 (m := 9) (by omega) (by omega) (by omega)) ?_
  rintro r C2 ⟨k1, rfl, k1a, k1b, h2⟩
  simp
  refine yd_mono (draw_ok h2 (m := 3) (by omega) (by omega) (by omega)) ?_
  rintro r C3 ⟨k2, rfl, k2a, k2b, h3⟩
  have hl : (rt.take 3).length ≤ 3 := by rw [List.length_take]; omega
  have hst := take_all (k := 3) hr.st
  have hsm := take_all (k := 3) hr.sm
  have ha : addF (.lst (rt.take 3)) (.lst [.tup [.str "work"]]) = some (.new (.lst (rt.take 3 ++ [wk]))) := add_lst (by simp only [List.length_cons, List.length_nil]; omega)
  simp [sl_3, len, ha]
  have hp := wk_prog hst (by omega)
  have hsm' : (rt.take 3 ++ [wk]).all sm = true := by rw [List.all_append, hsm]; simp [wk_sm]
  have hc := costL_le hsm'
  have hd := depL_le hsm'
  have hlen : (rt.take 3 ++ [wk]).length ≤ 4 := by rw [List.length_append]; simp only [List.length_cons, List.length_nil]; omega
  generalize rt.take 3 ++ [wk] = bp at hp hc hd hlen
  have hname : isName y = true := allM (p := isName) (by decide +kernel) hy
  have hflat := flat_cost (str_flat (allM (p := isStr) (by rfl) hy))
  refine yd_mono (t1_ok h3 (by omega) ?_ ?_ ?_) ?_
  · have hk : isKind (.tup [.str "apart", .int 5]) = true := by decide +kernel
    have e1 : betw 1 9 (.int (1 + k1)) = true := by simp [betw]; omega
    have e2 : betw 1 3 (.int (1 + k2)) = true := by simp [betw]; omega
    simp [isLine, seqD, isLineL, hname, hp, hk, e1, e2]
  · simp [cost, costL, hflat]; omega
  · simp [dep, depL, hflat]; omega
  · rintro fl C4 ⟨t3, t4, t5, t6, t7, t8, t9, t10, t11, t12, t13, t14, e, h4⟩
    exact ⟨t3, t4, t5, t6, t7, t8, t9, t10, t11, t12, t13, t14, e, spr_mono h4 (by omega)⟩
theorem pst_mono {n m : Nat} {fl : Fl} {C : Store} (h : Pst a b i n L fl C) (hm : n ≤ m) : Pst a b i m L fl C := by
  obtain ⟨t3, t4, t5, t6, t7, t8, t9, t10, t11, t12, t13, t14, e, h4⟩ := h
  exact ⟨t3, t4, t5, t6, t7, t8, t9, t10, t11, t12, t13, t14, e, spr_mono h4 hm⟩
theorem t3_ok {rt pr : List D} {u v : D} (h : Spr i n L C) (hn : n + 300 < 1000000000) (hr : Right rt) :
    Yd (r_law_t3 [a, b, some (.c i), s3, s4, s5, some (.d (.lst pr)), some (.d (.lst rt)), s8, s9, some (.d u), some (.d v), s12, s13, s14] C) (Pst a b i (n + 50) L) := by
  unfold r_law_t3
  simp [len]
  refine yd_mono (dname_ok h (by omega)) ?_
  rintro r C1 ⟨y, hy, rfl, h1⟩
  simp [len]
  refine yd_mono (dkind_ok h1 (by omega)) ?_
  rintro r C2 ⟨kd, hkd, rfl, h2⟩
  simp [len]
  refine yd_mono (pick_ok h2 (by omega) (by simp) (by simp)) ?_
  rintro r C3 ⟨w, hw, rfl, h3⟩
  simp [len]
  refine yd_mono (t2_ok h3 (by omega) hr) fun fl C4 h4 => pst_mono h4 (by omega)
theorem t4_ok {rt pr : List D} (h : Spr i n L C) (hn : n + 400 < 1000000000) (hr : Right rt) :
    Yd (r_law_t4 [a, b, some (.c i), s3, s4, s5, some (.d (.lst pr)), some (.d (.lst rt)), s8, s9, s10, s11, s12, s13, s14] C) (Pst a b i (n + 60) L) := by
  unfold r_law_t4
  simp [len]
  refine yd_mono (pick_ok h (by omega) (by simp) (by simp)) ?_
  rintro r C1 ⟨y, hy, rfl, h1⟩
  simp [len]
  refine yd_mono (pick_ok h1 (by omega) (by simp) (by simp)) ?_
  rintro r C2 ⟨w, hw, rfl, h2⟩
  simp [len]
  refine yd_mono (t3_ok h2 (by omega) hr) fun fl C4 h4 => pst_mono h4 (by omega)
theorem right_dep {rt : List D} (hr : Right rt) : dep (.lst rt) ≤ 3 ∧ cost (.lst rt) ≤ 49 := by
  have := costL_le hr.sm
  have := depL_le hr.sm
  have := hr.len
  simp only [dep, cost]; omega
theorem same_keys {k : Nat} {p q : Str → Bool} {xs ys : List D} {C : Store} : (F__law_same (k + 3)).run [.d (.lst [keyOf p xs, keyOf q ys]), .d (.lst [keyOf p xs, keyOf q ys])] C = some (.ok (rd (.bl true)) C) := by
  have e : ∀ (p : Str → Bool) (xs : List D) (C : Store), (F__law_same (k + 2)).run [.d (keyOf p xs), .d (keyOf p xs)] C = some (.ok (rd (.bl true)) C) := fun p xs C => by
    unfold keyOf
    refine same_lst fun y hy C => ?_
    obtain ⟨z, _, rfl⟩ := List.mem_map.mp hy
    exact same_str
  refine same_lst fun y hy C => ?_
  simp at hy
  rcases hy with rfl | rfl <;> exact e _ _ _
theorem t5_ok {rt pr : List D} (h : Spr i n L C) (hn : n + 1000 < 1000000000) (hr : Right rt) :
    Yd (r_law_t5 [a, b, some (.c i), s3, s4, s5, some (.d (.lst pr)), some (.d (.lst rt)), some (.d (keyOf pCell rt)), some (.d (keyOf pRing rt)), s10, s11, s12, s13, s14] C) (Pst a b i (n + 110) L) := by
  obtain ⟨r1, r2⟩ := right_dep hr
  unfold r_law_t5
  simp [len]
  cases he : rt.isEmpty with
  | true =>
    simp
    exact yd_mono (t4_ok h (by omega) hr) fun fl C4 h4 => pst_mono h4 (by omega)
  | false =>
    simp
    refine yd_mono (loose_ok (by omega) h (by omega)) ?_
    rintro r C1 ⟨z, rfl, hz, h1⟩
    obtain ⟨zs, hzs, hm⟩ : ∃ zs, seqD z = some zs ∧ zs.map norm = rt.map norm := by
      have q := seq_norm z
      rw [hz, seq_norm] at q
      rw [show seqD (.lst rt) = some rt from rfl] at q
      cases hs : seqD z with
      | none => rw [hs] at q; cases q
      | some zs => rw [hs] at q; exact ⟨zs, rfl, (Option.some.inj q).symm⟩
    have hzl : zs.length ≤ 24 := by
      have q := congrArg List.length hm
      simp at q
      have := hr.len
      omega
    have hall : ∀ xs : List D, xs.all isStep = (xs.map norm).all isStep := fun xs => by
      rw [List.all_map]; congr 1; funext y; exact (step_norm y).symm
    have hza : zs.all isStep = true := by rw [hall, hm, ← hall]; exact hr.st
    have k1 : keyOf pCell zs = keyOf pCell rt := by unfold keyOf; rw [keys_norm hm]
    simp [len, run_cells hzs hza hzl, run_rung (x := .tup rt) rfl hr.st hr.len, k1, same_keys (k := 3)]
    exact yd_mono (t4_ok h1 (by omega) hr) fun fl C4 h4 => pst_mono h4 (by omega)
end
end M

/-! part P10 -/
set_option maxRecDepth 100000
set_option maxHeartbeats 3999999
namespace M
open FL PySem PySem.Spec
theorem fm_eq {f : D → Option Str} {h : Str → D} : ∀ {xs : List D}, (xs.filter fun d => (f d).isSome).map (fun d => h ((f d).getD "")) = (xs.filterMap f).map h
  | [] => rfl
  | x :: xs => by
    have ih := fm_eq (f := f) (h := h) (xs := xs)
    cases hx : f x with
    | none => simp only [List.filter_cons, hx, Option.isSome_none, Bool.false_eq_true, if_false, List.filterMap_cons]; exact ih
    | some z => simp only [List.filter_cons, hx, Option.isSome_some, if_true, List.filterMap_cons, List.map_cons, Option.getD_some]; rw [ih]
theorem pairs_eq : ∀ (zs : List Str), asPairs (zs.map fun z => D.tup [.str z, .int 1]) = some (zs.map fun z => (.inr z, .int 1))
  | [] => rfl
  | z :: zs => by
    have ih := pairs_eq zs
    simp only [List.map_cons, asPairs, asPair, asK, Option.map_some, ih]
theorem merge_keys : ∀ {zs ks : List Str} {acc : List (L2.Key × D)}, acc.map (·.1) = ks.map .inr → (mergeG acc (zs.map fun z => (.inr z, .int 1))).map (·.1) = (zs.foldl kadd ks).map .inr
  | [], ks, acc, h => h
  | z :: zs, ks, acc, h => merge_keys (zs := zs) (ks := kadd ks z) (putG_keys h)
theorem dict_keys {zs : List Str} : ∃ m, dictF (.lst (zs.map fun z => D.tup [.str z, .int 1])) = some (.new (.dct m)) ∧ m.map (·.1) = (dd zs).map .inr :=
  ⟨_, by
    show (asPairs _).map _ = _
    rw [pairs_eq]
    rfl, merge_keys (ks := []) rfl⟩
section
variable {a b : Option W} {i n L : Nat} {C : Store} {s3 s4 s5 s6 s7 s8 s9 s10 s11 s12 s13 s14 : Option W}
theorem lawkeys {p : Str → Bool} {cond : EF Bool} {rt : List D} {δ : Slots} (hr : Right rt) (hp : ∀ w, p w = true → w = "take" ∨ w = "put" ∨ w = "ring") (hδ : 4 < δ.length) (hc : ∀ d w r, seqD d = some (.str w :: r) → cond ((δ.set 4 none).set 4 (some (.d d))) C = some (.ok (p w) C)) :
    compL [4] (tName 4) cond (aD (fTup (fCons (aD (fIx (fVar 4) (aD (FL.ret (rd (.int 1)))))) (fCons (aD (FL.ret (rd (.int 1)))) fNil)))) rt δ C = some ((rt.filterMap (kf p)).map (fun z => D.tup [.str z, .int 1]), C) := by
  have q := compL_map (own := [4]) (t := tName 4) (c := cond) (e := aD (fTup (fCons (aD (fIx (fVar 4) (aD (FL.ret (rd (.int 1)))))) (fCons (aD (FL.ret (rd (.int 1)))) fNil)))) (p := fun d => (kf p d).isSome) (g := fun d => D.tup [.str ((kf p d).getD ""), .int 1]) (ds := rt) (δ := δ) (C := C) (fun d hd => by
    obtain ⟨w, r, h1, h2, h3⟩ := kf_shape (List.all_eq_true.mp hr.st d hd) hp
    refine ⟨_, rfl, ?_, ?_⟩
    · rw [h2]; exact hc d w r h1
    · intro hs
      obtain ⟨z, hz⟩ := Option.isSome_iff_exists.mp hs
      obtain ⟨⟨r', rfl⟩, _⟩ := h3 z hz
      rw [← yd_eq]
      simp [wipeD, sq_ix h1, hz, len, hδ])
  rw [q, fm_eq (h := fun z => D.tup [.str z, .int 1])]
theorem t6_ok {rt pr : List D} (h : Spr i n L C) (hn : n + 1000 < 1000000000) (hr : Right rt) :
    Yd (r_law_t6 [a, b, some (.c i), s3, s4, s5, some (.d (.lst pr)), some (.d (.lst rt)), some (.d (keyOf pCell rt)), s9, s10, s11, s12, s13, s14] C) (Pst a b i (n + 110) L) := by
  unfold r_law_t6
  have l := keys_len (p := pRing) (xs := rt)
  have l2 := hr.len
  obtain ⟨m, m1, m2⟩ := dict_keys (zs := rt.filterMap (kf pRing))
  have s := sort_dct m2 (by omega) (keys_small hpR hr.st)
  simp
  rw [lawkeys (p := pRing) hr hpR (by simp) (fun d w r hd => by
    rw [← yd_eq]
    simp [sq_ix hd, pRing])]
  simp [m1, s]
  exact t5_ok h hn hr
theorem t7_ok {rt pr : List D} (h : Spr i n L C) (hn : n + 1000 < 1000000000) (hr : Right rt) :
    Yd (r_law_t7 [a, b, some (.c i), s3, s4, s5, some (.d (.lst pr)), some (.d (.lst rt)), s8, s9, s10, s11, s12, s13, s14] C) (Pst a b i (n + 110) L) := by
  unfold r_law_t7
  have l := keys_len (p := pCell) (xs := rt)
  have l2 := hr.len
  have z2 : 2 ≤ sizeLine := len (by omega)
  obtain ⟨m, m1, m2⟩ := dict_keys (zs := rt.filterMap (kf pCell))
  have s := sort_dct m2 (by omega) (keys_small hpC hr.st)
  simp
  rw [lawkeys (p := pCell) hr hpC (by simp) (fun d w r hd => by
    rw [← yd_eq]
    simp [sq_ix hd, pCell, z2, inD_s2])]
  simp [m1, s]
  exact t6_ok h hn hr
theorem t8_ok {rt pr : List D} (h : Spr i n L C) (hn : n + 1200 < 1000000000) (hr : Right rt) :
    Yd (r_law_t8 [a, b, some (.c i), s3, s4, s5, some (.d (.lst pr)), some (.d (.lst rt)), s8, s9, s10, s11, s12, s13, s14] C) (Pst a b i (n + 160) L) := by
  obtain ⟨r1, r2⟩ := right_dep hr
  have e1 : isProg (.tup pr) = isProg (.lst pr) := rfl
  unfold r_law_t8
  simp [run_prog, e1]
  refine yd_mono (loose_ok (by omega) h (by omega)) ?_
  rintro r C1 ⟨z, rfl, hz, h1⟩
  have e : isProg z = isProg (.lst rt) := by rw [← prog_norm, hz, prog_norm]
  simp [run_prog, len, e, run_sprog, mul_2, add_lst, same_bls (k := 4), asB]
  exact yd_mono (t7_ok h1 (by omega) hr) fun fl C4 h4 => pst_mono h4 (by omega)
theorem flt {ys : List D} {δ : Slots} (hδ : 4 < δ.length) : compL [4] (tName 4) (fTru (fCall F__law_s_step (fCons (aDW (fVar 4)) fNil))) (aD (fVar 4)) ys δ C = some (ys.filter isStep, C) := by
  have q := compL_map (own := [4]) (t := tName 4) (c := fTru (fCall F__law_s_step (fCons (aDW (fVar 4)) fNil))) (e := aD (fVar 4)) (p := isStep) (g := fun d => d) (ds := ys) (δ := δ) (C := C) (fun d hd => by
    refine ⟨_, rfl, ?_, fun _ => ?_⟩
    · rw [← yd_eq]
      simp [wipeD, hδ, run_sstep]
    · rw [← yd_eq]
      simp [wipeD, hδ])
  rw [q]
  simp
theorem right_ok {ys w : List D} (h : ys.all sm = true) (hw : w = [] ∨ w = [wk]) : Right ((ys.filter isStep).take 23 ++ w) := by
  have e1 : (ys.filter isStep).all isStep = true := by rw [List.all_eq_true]; intro y hy; exact (List.mem_filter.mp hy).2
  have e2 : (ys.filter isStep).all sm = true := by rw [List.all_eq_true]; intro y hy; exact allM h (List.mem_filter.mp hy).1
  have f1 := take_all (k := 23) e1
  have f2 := take_all (k := 23) e2
  have f3 : ((ys.filter isStep).take 23).length ≤ 23 := by rw [List.length_take]; omega
  generalize (ys.filter isStep).take 23 = t at f1 f2 f3
  rcases hw with rfl | rfl
  · exact ⟨by rw [List.all_append, f1]; rfl, by rw [List.all_append, f2]; rfl, by simp; omega⟩
  · exact ⟨by rw [List.all_append, f1]; simp [wk_st], by rw [List.all_append, f2]; simp [wk_sm], by simp; omega⟩
theorem t9_ok {pr : List D} {k : Int} (h : Spr i n L C) (hn : n + 1200 < 1000000000) (hp : pr.all sm = true) (hl : pr.length ≤ 30) :
    Yd (r_law_t9 [a, b, some (.c i), some (.d (.int k)), s4, s5, some (.d (.lst pr)), s7, s8, s9, s10, s11, s12, s13, s14] C) (Pst a b i (n + 160) L) := by
  have r0 := right_ok hp (.inl rfl)
  have r1 := right_ok hp (.inr rfl)
  have g0 := r0.len
  have g1 := r1.len
  have a1 : addF (.lst ((pr.filter isStep).take 23)) (.lst [.tup [.str "work"]]) = some (.new (.lst ((pr.filter isStep).take 23 ++ [wk]))) := add_lst (by simp at g1 ⊢; omega)
  have a0 : addF (.lst ((pr.filter isStep).take 23)) (.lst []) = some (.new (.lst ((pr.filter isStep).take 23 ++ []))) := add_lst (by simp at g0 ⊢; omega)
  unfold r_law_t9
  simp [flt, sl_23, len, mod_ii]
  cases hb : (k % 2 != 0) with
  | true =>
    simp [sl_1, a1]
    exact t8_ok h hn r1
  | false =>
    simp [sl_0]
    rw [a0]
    simp
    have r0' := r0
    rw [List.append_nil] at r0'
    exact t8_ok h hn r0'
end
end M

/-! part P11 -/
set_option maxRecDepth 100000
set_option maxHeartbeats 3999999
namespace M
open FL PySem PySem.Spec
theorem rng_mem {m : Int} {d : D} (h : d ∈ rngD 0 m) : ∃ k : Nat, d = .int k ∧ (k : Int) < m := by
  unfold rngD at h
  obtain ⟨k, hk, rfl⟩ := List.mem_map.mp h
  rw [List.mem_range] at hk
  exact ⟨k, by simp, by omega⟩
theorem rng_len {m : Int} : (rngD 0 m).length = m.toNat := by
  unfold rngD; simp
theorem all2_all {p : D → Bool} {P : D → D → Prop} {xs ys : List D} (h : All2 P xs ys) (w : ∀ x y, P x y → p y = true) : ys.all p = true ∧ ys.length = xs.length := by
  induction h with
  | nil => exact ⟨rfl, rfl⟩
  | cons h _ ih => exact ⟨by rw [List.all_cons, w _ _ h, ih.1]; rfl, by simp [ih.2]⟩
section
variable {a b : Option W} {i n L : Nat} {C : Store} {s3 s4 s5 s6 s7 s8 s9 s10 s11 s12 s13 s14 : Option W}
theorem t10_ok {k : Int} (h : Spr i n L C) (hn : n + 2000 < 1000000000) :
    Yd (r_law_t10 [a, b, some (.c i), some (.d (.int k)), s4, s5, s6, s7, s8, s9, s10, s11, s12, s13, s14] C) (Pst a b i (n + 400) L) := by
  unfold r_law_t10
  simp [len]
  refine yd_mono (pick_ok h (by omega) (by simp) (by simp)) ?_
  rintro r C1 ⟨y, hy, rfl, h1⟩
  obtain ⟨m, rfl, m0, m1⟩ : ∃ m : Int, y = .int m ∧ 0 ≤ m ∧ m ≤ 25 := by
    simp at hy
    rcases hy with rfl | rfl | rfl | rfl | rfl | rfl <;> exact ⟨_, rfl, by omega, by omega⟩
  have hw : ((rngD 0 m).map fun _ => 5).sum ≤ 125 := by
    have : ∀ l : List D, (l.map fun _ => 5).sum = 5 * l.length := fun l => by
      induction l with
      | nil => rfl
      | cons x l ih => simp only [List.map_cons, List.sum_cons, ih, List.length_cons]; omega
    rw [this, rng_len]
    omega
  simp [len]
  refine ⟨⟨by omega, by omega⟩, by have := big; omega, ?_⟩
  refine lc_mono (compL_cnt (I := fun m C => Spr i m L C) (P := fun _ z => sm z = true) (w := fun _ => 5) (n := n + 1) ?_ h1) ?_
  · intro d hd j C2 hj hI
    refine ⟨_, rfl, rfl, ?_⟩
    simp [wipeD]
    refine yd_mono (dstep_ok hI (by omega)) ?_
    rintro r C3 ⟨z, hz, rfl, h3⟩
    exact ⟨hz, h3⟩
  · rintro ys C2 ⟨h2, hall⟩
    obtain ⟨q1, q2⟩ := all2_all (p := sm) hall fun _ _ h => h
    rw [rng_len] at q2
    simp
    exact yd_mono (t9_ok h2 (by omega) q1 (by omega)) fun fl C4 h4 => pst_mono h4 (by omega)
theorem t13_ok (h : Spr i n L C) (hn : n + 2000 < 1000000000) :
    Yd (r_law_t13 [a, b, some (.c i), s3, s4, s5, s6, s7, s8, s9, s10, s11, s12, s13, s14] C) (Pst a b i (n + 20) L) := by
  unfold r_law_t13
  simp [len]
  refine yd_mono (dstep_ok h (by omega)) ?_
  rintro r C1 ⟨x, hx, rfl, h1⟩
  simp
  refine yd_mono (dkind_ok h1 (by omega)) ?_
  rintro r C2 ⟨y, hy, rfl, h2⟩
  simp [sm] at hx hy
  unfold r_law_t12
  simp [run_step]
  refine yd_mono (loose_ok (by omega) h2 (by omega)) ?_
  rintro r C3 ⟨z, rfl, hz, h3⟩
  have e1 : isStep z = isStep x := by rw [← step_norm, hz, step_norm]
  simp [run_step, run_kind, e1]
  refine yd_mono (loose_ok (by omega) h3 (by omega)) ?_
  rintro r C4 ⟨z2, rfl, hz2, h4⟩
  have e2 : isKind z2 = isKind y := by rw [← kind_norm, hz2, kind_norm]
  simp [run_kind, run_sstep, run_skind, e2, len, mul_2, add_lst, same_bls (k := 4), asB]
  exact ⟨s3, _, _, s6, s7, s8, s9, s10, s11, s12, s13, s14, rfl, spr_mono h4 (by omega)⟩
end
theorem spring_ok {ns : List Int} {turn : Nat} {C : Store} (ht : turn < 4) (hl : ns.length ≤ sizeLine) : Yd (F__law_spring.run [.d (.scr ns), .d (.int turn)] C) fun r C' => C' = C ∧ ∃ x y : Int, r = .new (.lst [.int x, .int y, .int 0]) ∧ 0 ≤ y ∧ y < 2147483647 := by
  have loop : ∀ (cell : Int) (mix : Int) (C : Store), Yd (loopF (tTupF 2 (tConsF (tName 4) (tConsF (tName 5) tNilF))) r__law_spring_t1 (enD ((cutG ns none (some 63)).map D.int)) [some (.d (.scr ns)), some (.d (.int turn)), some (.d (.int cell)), some (.d (.int mix)), none, none] C) fun fl C' => match fl with
      | .nx δ' => C' = C ∧ ∃ mix s4 s5, δ' = [some (.d (.scr ns)), some (.d (.int turn)), some (.d (.int cell)), some (.d (.int mix)), s4, s5]
      | .rt _ => False
      | _ => False := by
    intro cell mix C
    refine loop_inv (I := fun _ δ' C' => C' = C ∧ ∃ mix s4 s5, δ' = [some (.d (.scr ns)), some (.d (.int turn)), some (.d (.int cell)), some (.d (.int mix)), s4, s5]) (R := fun _ _ => False) (n := 0) ?_ ⟨rfl, mix, none, none, rfl⟩
    rintro d hd m δ C' ⟨rfl, mix, s4, s5, rfl⟩
    obtain ⟨i, x, rfl⟩ : ∃ i x : Int, d = .tup [.int i, .int x] := by
      unfold enD at hd
      obtain ⟨j, hj, rfl⟩ := List.mem_mapIdx.mp hd
      simp only [List.getElem_map]
      exact ⟨_, _, rfl⟩
    refine ⟨_, rfl, ?_⟩
    unfold r__law_spring_t1
    have p1 : mulF (.int mix) (.int 69069) = some (rd (.int (mix * 69069))) := mul_r (by decide)
    have p2 : mulF (.int 5) (.int i) = some (rd (.int (5 * i))) := mul_l (by decide)
    simp [p1, p2, mod_ii]
  have p3 : mulF (.int 7) (.int turn) = some (rd (.int (7 * turn))) := mul_l (by decide)
  have p4 : mulF (.int 97) (.int turn) = some (rd (.int (97 * turn))) := mul_l (by decide)
  have p5 : powF (.int 10) (.int 18) = some (rd (.int (10 ^ (18 : Int).toNat))) := pow_ii (by decide) (by decide) (by decide)
  have p6 : ∀ cell : Int, mulF (.int cell) (.int 31) = some (rd (.int (cell * 31))) := fun cell => mul_r (by decide)
  have s1 : slF (.scr ns) none (some 63) = some (.new (.lst ((cutG ns none (some 63)).map D.int))) := rfl
  have z3 : 3 ≤ sizeLine := len (by omega)
  obtain ⟨big, hbig⟩ : ∃ big : Int, big = 10 ^ (18 : Int).toNat := ⟨_, rfl⟩
  rw [← hbig] at p5
  have rest : ∀ cell mix : Int, Yd (r__law_spring_t2 [some (.d (.scr ns)), some (.d (.int turn)), some (.d (.int cell)), some (.d (.int mix)), none, none] C) fun fl C' => ∃ x y : Int, fl = .rt (.new (.lst [.int x, .int y, .int 0])) ∧ C' = C ∧ 0 ≤ y ∧ y < 2147483647 := by
    intro cell mix
    unfold r__law_spring_t2
    simp [s1, listD]
    refine yd_mono (loop cell mix C) ?_
    rintro fl C' hh
    match fl, hh with
    | .nx δ', ⟨e, mix', s4, s5, e2⟩ =>
      subst e; subst e2
      have y0 : 0 ≤ (mix' + cell * 31) % 2147483647 := Int.emod_nonneg _ (by decide)
      have y1 : (mix' + cell * 31) % 2147483647 < 2147483647 := Int.emod_lt_of_pos _ (by decide)
      simp [p5, p6, mod_ii, z3]
      cases hb : decide (big ≤ cell) <;> simp [p6, mod_ii, z3] <;> exact ⟨_, _, ⟨rfl, rfl⟩, y0, y1⟩
  unfold F__law_spring r__law_spring; rw [run_mk, yd_finish]; unfold r__law_spring_t3
  by_cases hlt : turn < ns.length
  · have hg : L2.atI ns (turn : Int) = some ns[turn] := by rw [atI_nat, List.getElem?_eq_getElem hlt]
    simp [slots0, hlt, hg, p4]
    refine yd_mono (rest _ _) ?_
    rintro fl C' ⟨x, y, rfl, rfl, y0, y1⟩
    simp
    exact ⟨x, y, ⟨rfl, rfl⟩, y0, y1⟩
  · simp [slots0, hlt, p3, p4]
    refine yd_mono (rest _ _) ?_
    rintro fl C' ⟨x, y, rfl, rfl, y0, y1⟩
    simp
    exact ⟨x, y, ⟨rfl, rfl⟩, y0, y1⟩
end M

/-! part P12 -/
set_option maxRecDepth 100000
set_option maxHeartbeats 3999999
namespace M
open FL PySem PySem.Spec
theorem loop_cnt {t : TF} {b : SF} {I : Nat → Slots → Store → Prop} : ∀ {ds : List D} {n : Nat} {δ : Slots} {C : Store}, (∀ d ∈ ds, ∀ m δ C, m + 1 ≤ n + ds.length → I m δ C → ∃ δ1, t d δ = some δ1 ∧ Yd (b δ1 C) fun fl C' => ∃ δ', fl = .nx δ' ∧ I (m + 1) δ' C') → I n δ C → Yd (loopF t b ds δ C) fun fl C' => ∃ δ', fl = .nx δ' ∧ I (n + ds.length) δ' C'
  | [], n, δ, C, _, hI => ⟨δ, rfl, hI⟩
  | d :: ds, n, δ, C, h, hI => by
    obtain ⟨δ1, h1, h3⟩ := h d (List.mem_cons_self ..) n δ C (by rw [List.length_cons]; omega) hI
    unfold loopF
    simp only [h1]
    match he : b δ1 C, h3 with
    | some (.ok fl C2), h3 =>
      obtain ⟨δ', rfl, hI'⟩ := h3
      have q := loop_cnt (t := t) (b := b) (ds := ds) (n := n + 1) (δ := δ') (C := C2) (fun d hd m δ C hm => h d (List.mem_cons_of_mem _ hd) m δ C (by rw [List.length_cons]; omega)) hI'
      rw [List.length_cons, show n + (ds.length + 1) = n + 1 + ds.length by omega]
      exact q
section
variable {a b : Option W} {i n L : Nat} {C : Store} {s2 s3 s4 s5 s6 s7 s8 s9 s10 s11 s12 s13 s14 : Option W}
theorem t14_ok (h : Spr i 0 L C) :
    Yd (r_law_t14 [a, b, some (.c i), s3, s4, s5, s6, s7, s8, s9, s10, s11, s12, s13, s14] C) (Pst a b i 10000 L) := by
  unfold r_law_t14
  simp
  refine ⟨⟨by omega, by omega⟩, by have := big; omega, ?_⟩
  refine yd_mono (loop_cnt (I := fun k δ C => Pst a b i (20 * k) L (.nx δ) C) (n := 0) ?_ ⟨s3, s4, s5, s6, s7, s8, s9, s10, s11, s12, s13, s14, rfl, h⟩) ?_
  · rintro d hd m δ C1 hm ⟨t3, t4, t5, t6, t7, t8, t9, t10, t11, t12, t13, t14, e, hs⟩
    cases e
    rw [rng_len] at hm
    refine ⟨_, rfl, ?_⟩
    refine yd_mono (t13_ok hs (by omega)) ?_
    rintro fl C2 ⟨t3, t4, t5, t6, t7, t8, t9, t10, t11, t12, t13, t14, rfl, hs⟩
    exact ⟨_, rfl, t3, t4, t5, t6, t7, t8, t9, t10, t11, t12, t13, t14, rfl, spr_mono hs (by omega)⟩
  · rintro fl C1 ⟨δ', rfl, t3, t4, t5, t6, t7, t8, t9, t10, t11, t12, t13, t14, e, hs⟩
    cases e
    rw [rng_len] at hs
    unfold r_law_t11
    simp
    refine ⟨⟨by omega, by omega⟩, by have := big; omega, ?_⟩
    refine yd_mono (loop_cnt (I := fun k δ C => Pst a b i (240 + 400 * k) L (.nx δ) C) (n := 0) ?_ ⟨t3, t4, t5, t6, t7, t8, t9, t10, t11, t12, t13, t14, rfl, spr_mono hs (by omega)⟩) ?_
    · rintro d hd m δ C1 hm ⟨t3, t4, t5, t6, t7, t8, t9, t10, t11, t12, t13, t14, e, hs⟩
      cases e
      rw [rng_len] at hm
      obtain ⟨k, rfl, hk⟩ := rng_mem hd
      refine ⟨_, rfl, ?_⟩
      refine yd_mono (t10_ok hs (by omega)) ?_
      rintro fl C2 ⟨t3, t4, t5, t6, t7, t8, t9, t10, t11, t12, t13, t14, rfl, hs⟩
      exact ⟨_, rfl, t3, t4, t5, t6, t7, t8, t9, t10, t11, t12, t13, t14, rfl, spr_mono hs (by omega)⟩
    · rintro fl C1 ⟨δ', rfl, t3, t4, t5, t6, t7, t8, t9, t10, t11, t12, t13, t14, e, hs⟩
      cases e
      rw [rng_len] at hs
      exact ⟨t3, t4, t5, t6, t7, t8, t9, t10, t11, t12, t13, t14, rfl, spr_mono hs (by omega)⟩
end
theorem t15_ok {ns : List Int} {k : Nat} {C : Store} {s2 s3 s4 s5 s6 s7 s8 s9 s10 s11 s12 s13 s14 : Option W} (hk : k < 4) (hl : ns.length ≤ sizeLine) :
    Yd (r_law_t15 [some (.d (.scr ns)), some (.d (.int k)), s2, s3, s4, s5, s6, s7, s8, s9, s10, s11, s12, s13, s14] C) fun fl C' => ∃ s1 s2 s3 s4 s5 s6 s7 s8 s9 s10 s11 s12 s13 s14, fl = .nx [some (.d (.scr ns)), s1, s2, s3, s4, s5, s6, s7, s8, s9, s10, s11, s12, s13, s14] := by
  unfold r_law_t15
  simp
  refine yd_mono (spring_ok hk hl) ?_
  rintro r C' ⟨rfl, x, y, rfl, y0, y1⟩
  simp
  refine yd_mono (t14_ok (L := C'.length + 1) ⟨by simp, by omega, x, y, 0, by simp, y0, y1, by omega, by omega⟩) ?_
  rintro fl C2 ⟨t3, t4, t5, t6, t7, t8, t9, t10, t11, t12, t13, t14, e, hs⟩
  exact ⟨_, _, t3, t4, t5, t6, t7, t8, t9, t10, t11, t12, t13, t14, e⟩
theorem t16_ok {ns : List Int} {C : Store} {s1 s2 s3 s4 s5 s6 s7 s8 s9 s10 s11 s12 s13 s14 : Option W} (hl : ns.length ≤ sizeLine) :
    Yd (r_law_t16 [some (.d (.scr ns)), s1, s2, s3, s4, s5, s6, s7, s8, s9, s10, s11, s12, s13, s14] C) fun fl _ => fl = .rt (rd (.bl true)) := by
  unfold r_law_t16
  simp
  refine ⟨⟨by omega, by omega⟩, by have := big; omega, ?_⟩
  refine yd_mono (loop_cnt (I := fun k δ C => ∃ s1 s2 s3 s4 s5 s6 s7 s8 s9 s10 s11 s12 s13 s14, δ = [some (.d (.scr ns)), s1, s2, s3, s4, s5, s6, s7, s8, s9, s10, s11, s12, s13, s14]) (n := 0) ?_ ⟨s1, s2, s3, s4, s5, s6, s7, s8, s9, s10, s11, s12, s13, s14, rfl⟩) ?_
  · rintro d hd m δ C1 hm ⟨s1, s2, t3, t4, t5, t6, t7, t8, t9, t10, t11, t12, t13, t14, rfl⟩
    obtain ⟨k, rfl, hk⟩ := rng_mem hd
    refine ⟨_, rfl, ?_⟩
    refine yd_mono (t15_ok (by omega) hl) ?_
    rintro fl C2 ⟨s1, s2, t3, t4, t5, t6, t7, t8, t9, t10, t11, t12, t13, t14, rfl⟩
    exact ⟨_, rfl, s1, s2, t3, t4, t5, t6, t7, t8, t9, t10, t11, t12, t13, t14, rfl⟩
  · rintro fl C1 ⟨δ', rfl, _⟩
    simp
theorem le3 : isProg (.lst []) = false := rfl
theorem le1 : isProg (.lst (List.replicate 24 [wk]).flatten) = true := by
  have h : (List.replicate 24 [wk]).flatten.all isStep = true := by simp [List.replicate, wk_st]
  have l : (List.replicate 24 [wk]).flatten.length = 24 := by simp [List.replicate]
  simp only [isProg, seqD, isProgL, h, l]
  rfl
theorem le2 : isProg (.lst (List.replicate 25 [wk]).flatten) = false := by
  have l : (List.replicate 25 [wk]).flatten.length = 25 := by simp [List.replicate]
  simp only [isProg, seqD, isProgL, l]
  rfl
theorem le4 : isLine (.tup [.str "a", .int 3, .int 2, .tup [.str "apart", .int 5], .lst (List.replicate 25 [.tup [.str "mask", .int 1]]).flatten]) = false := by
  have l : (List.replicate 25 [D.tup [.str "mask", .int 1]]).flatten.length = 25 := by simp [List.replicate]
  have q : isProg (.lst (List.replicate 25 [D.tup [.str "mask", .int 1]]).flatten) = false := by
    simp only [isProg, seqD, isProgL, l]
    rfl
  simp only [isLine, seqD, isLineL, q, Bool.and_false]
theorem le5 : isLine (.tup [.str "aB", .int 3, .int 2, .tup [.str "apart", .int 5], .lst [.tup [.str "work"]]]) = false := by
  have q : isName (.str "aB") = false := by decide +kernel
  simp only [isLine, seqD, isLineL, q, Bool.false_and]
theorem le6 : isLine (.tup [.str "a", .bl true, .int 2, .tup [.str "apart", .int 5], .lst [.tup [.str "work"]]]) = false := by
  have q : betw 1 9 (.bl true) = false := rfl
  simp only [isLine, seqD, isLineL, q, Bool.and_false, Bool.false_and]
theorem pw24 : ∃ x, mulF (.lst [.tup [.str "work"]]) (.int 24) = some (.new (.lst x)) ∧ isProg (.lst x) = true := ⟨_, mul_24 (show 1 ≤ 1000 by decide), le1⟩
theorem pw25 : ∃ x, mulF (.lst [.tup [.str "work"]]) (.int 25) = some (.new (.lst x)) ∧ isProg (.lst x) = false := ⟨_, mul_25 (show 1 ≤ 1000 by decide), le2⟩
theorem pm25 : ∃ x, mulF (.lst [.tup [.str "mask", .int 1]]) (.int 25) = some (.new (.lst x)) ∧ isLine (.tup [.str "a", .int 3, .int 2, .tup [.str "apart", .int 5], .lst x]) = false := ⟨_, mul_25 (show 1 ≤ 1000 by decide), le4⟩
theorem law_ok {ns : List Int} {C : Store} (hl : ns.length ≤ sizeLine) : ∃ C', F_law.run [.d (.scr ns)] C = some (.ok (rd (.bl true)) C') := by
  have q : Yd (F_law.run [.d (.scr ns)] C) fun r _ => r = rd (.bl true) := by
    unfold F_law r_law; rw [run_mk, yd_finish]
    obtain ⟨x24, m1, e1⟩ := pw24
    obtain ⟨x25, m2, e2⟩ := pw25
    obtain ⟨y25, m3, e4⟩ := pm25
    have e3 := le3
    have e5 := le5
    have e6 := le6
    unfold r_law_t18
    simp [slots0, len, m1, m2, run_prog, e1, e2, e3, same_bls (k := 4), asB]
    unfold r_law_t17
    simp [len, m3, run_line, e4, e5, e6]
    refine yd_mono (t16_ok hl) ?_
    rintro fl C' rfl
    simp
  match hr : F_law.run [.d (.scr ns)] C, q with
  | some (.ok r C'), q => exact ⟨C', by rw [q]⟩
end M

/-! part E1 -/
set_option maxRecDepth 100000
set_option maxHeartbeats 0
namespace M
open L2 FL PyProof.Rows PySem.Spec PySem
def XR0 : Hp → Hp → Value → Option Addr → Exn → Prop := fun _ _ _ _ _ => False
theorem sc_is_integer : FnScope ["thing"] ["thing"] (defScope Hd.s_is_integer) := ⟨rfl, rfl, rfl, by decide +kernel, rfl, by decide +kernel, by decide +kernel⟩
theorem sc_is_between : FnScope ["thing", "low", "high"] ["thing", "low", "high"] (defScope Hd.s_is_between) := ⟨rfl, rfl, rfl, by decide +kernel, rfl, by decide +kernel, by decide +kernel⟩
theorem sc_is_list : FnScope ["thing"] ["thing"] (defScope Hd.s_is_list) := ⟨rfl, rfl, rfl, by decide +kernel, rfl, by decide +kernel, by decide +kernel⟩
theorem sc_is_row_of : FnScope ["thing", "many"] ["thing", "many"] (defScope Hd.s_is_row_of) := ⟨rfl, rfl, rfl, by decide +kernel, rfl, by decide +kernel, by decide +kernel⟩
theorem sc_is_name : FnScope ["thing", "sign"] ["thing"] (defScope Hd.s_is_name) := ⟨rfl, rfl, rfl, by decide +kernel, rfl, by decide +kernel, by decide +kernel⟩
theorem sc_is_step : FnScope ["thing", "word"] ["thing"] (defScope Hd.s_is_step) := ⟨rfl, rfl, rfl, by decide +kernel, rfl, by decide +kernel, by decide +kernel⟩
theorem sc_is_program : FnScope ["thing", "step"] ["thing"] (defScope Hd.s_is_program) := ⟨rfl, rfl, rfl, by decide +kernel, rfl, by decide +kernel, by decide +kernel⟩
theorem sc_rung_in : FnScope ["program", "step"] ["program"] (defScope Hd.s_rung_in) := ⟨rfl, rfl, rfl, by decide +kernel, rfl, by decide +kernel, by decide +kernel⟩
theorem sc_cells_in : FnScope ["program", "step"] ["program"] (defScope Hd.s_cells_in) := ⟨rfl, rfl, rfl, by decide +kernel, rfl, by decide +kernel, by decide +kernel⟩
theorem sc_is_kind : FnScope ["thing"] ["thing"] (defScope Hd.s_is_kind) := ⟨rfl, rfl, rfl, by decide +kernel, rfl, by decide +kernel, by decide +kernel⟩
theorem sc_is_line : FnScope ["thing"] ["thing"] (defScope Hd.s_is_line) := ⟨rfl, rfl, rfl, by decide +kernel, rfl, by decide +kernel, by decide +kernel⟩
theorem sc__law_spring : FnScope ["script", "turn", "cell", "mix", "at", "one"] ["script", "turn"] (defScope Hd.s__law_spring) := ⟨rfl, rfl, rfl, by decide +kernel, rfl, by decide +kernel, by decide +kernel⟩
theorem sc__law_draw : FnScope ["spring", "many", "digit", "mixed"] ["spring", "many"] (defScope Hd.s__law_draw) := ⟨rfl, rfl, rfl, by decide +kernel, rfl, by decide +kernel, by decide +kernel⟩
theorem sc__law_pick : FnScope ["spring", "some"] ["spring", "some"] (defScope Hd.s__law_pick) := ⟨rfl, rfl, rfl, by decide +kernel, rfl, by decide +kernel, by decide +kernel⟩
theorem sc__law_mixed : FnScope ["spring", "some", "left", "k"] ["spring", "some"] (defScope Hd.s__law_mixed) := ⟨rfl, rfl, rfl, by decide +kernel, rfl, by decide +kernel, by decide +kernel⟩
theorem sc__law_same : FnScope ["found", "due", "is_alike", "one", "other"] ["found", "due"] (defScope Hd.s__law_same) := ⟨rfl, rfl, rfl, by decide +kernel, rfl, by decide +kernel, by decide +kernel⟩
theorem sc__law_loose : FnScope ["spring", "thing", "found", "key", "part"] ["spring", "thing"] (defScope Hd.s__law_loose) := ⟨rfl, rfl, rfl, by decide +kernel, rfl, by decide +kernel, by decide +kernel⟩
theorem sc__law_s_whole : FnScope ["thing", "low", "high"] ["thing", "low", "high"] (defScope Hd.s__law_s_whole) := ⟨rfl, rfl, rfl, by decide +kernel, rfl, by decide +kernel, by decide +kernel⟩
theorem sc__law_s_name : FnScope ["thing", "signs", "sign"] ["thing"] (defScope Hd.s__law_s_name) := ⟨rfl, rfl, rfl, by decide +kernel, rfl, by decide +kernel, by decide +kernel⟩
theorem sc__law_s_listed : FnScope ["thing", "many"] ["thing", "many"] (defScope Hd.s__law_s_listed) := ⟨rfl, rfl, rfl, by decide +kernel, rfl, by decide +kernel, by decide +kernel⟩
theorem sc__law_s_step : FnScope ["thing"] ["thing"] (defScope Hd.s__law_s_step) := ⟨rfl, rfl, rfl, by decide +kernel, rfl, by decide +kernel, by decide +kernel⟩
theorem sc__law_s_program : FnScope ["thing", "one"] ["thing"] (defScope Hd.s__law_s_program) := ⟨rfl, rfl, rfl, by decide +kernel, rfl, by decide +kernel, by decide +kernel⟩
theorem sc__law_s_kind : FnScope ["thing"] ["thing"] (defScope Hd.s__law_s_kind) := ⟨rfl, rfl, rfl, by decide +kernel, rfl, by decide +kernel, by decide +kernel⟩
theorem sc__law_s_line : FnScope ["thing"] ["thing"] (defScope Hd.s__law_s_line) := ⟨rfl, rfl, rfl, by decide +kernel, rfl, by decide +kernel, by decide +kernel⟩
theorem sc__law_s_drawn_name : FnScope ["spring", "good"] ["spring"] (defScope Hd.s__law_s_drawn_name) := ⟨rfl, rfl, rfl, by decide +kernel, rfl, by decide +kernel, by decide +kernel⟩
theorem sc__law_s_drawn_step : FnScope ["spring", "name", "number", "some"] ["spring"] (defScope Hd.s__law_s_drawn_step) := ⟨rfl, rfl, rfl, by decide +kernel, rfl, by decide +kernel, by decide +kernel⟩
theorem sc__law_s_drawn_kind : FnScope ["spring", "gap", "many", "some"] ["spring"] (defScope Hd.s__law_s_drawn_kind) := ⟨rfl, rfl, rfl, by decide +kernel, rfl, by decide +kernel, by decide +kernel⟩
theorem sc_law : FnScope ["script", "turn", "spring", "k", "step", "kind", "program", "right", "cells", "rung", "rank", "holds", "line", "better", "j"] ["script"] (defScope Hd.s_law) := ⟨rfl, rfl, rfl, by decide +kernel, rfl, by decide +kernel, by decide +kernel⟩
section
variable {P : Program} {w : World} {K : PySem.W.Frag} {mg : Str → Option Value} {base : Heap}
structure Gf (P : Program) (w : World) (K : PySem.W.Frag) (mg : Str → Option Value) (base : Heap) (k : Nat) (x : Str) (ps : List Str) (F : Fn) : Prop where
  ex : ∃ (f : Addr) (fd : FuncData), FnOk P w K mg base (L2.CX P w) k f fd ps (SpF K XR0 F) ∧ mg x = some (.ref f) ∧ PySem.W.keepIn K (.ref f) = true ∧ Binds K fd ps []
theorem Gf.mono {j k : Nat} {x : Str} {ps : List Str} {F : Fn} (G : Gf P w K mg base j x ps F) (h : j ≤ k) : Gf P w K mg base k x ps F := by
  obtain ⟨f, fd, h1, h2, h3, h4⟩ := G.ex
  exact ⟨f, fd, h1.mono h, h2, h3, h4⟩
theorem Gf.use {k : Nat} {x : Str} {ps : List Str} {F : Fn} (G : Gf P w K mg base k x ps F) : ∃ (f : Addr) (fd : FuncData) (ps : List Str), FnOk P w K mg base (L2.CX P w) k f fd ps (SpF K XR0 F) ∧ mg x = some (.ref f) ∧ PySem.W.keepIn K (.ref f) = true ∧ Binds K fd ps [] := by
  obtain ⟨f, fd, h⟩ := G.ex
  exact ⟨f, fd, ps, h⟩
abbrev FsOk (P : Program) (w : World) (K : PySem.W.Frag) (mg : Str → Option Value) (base : Heap) (k : Nat) (fns : List (Str × Fn × List Bool)) : Prop := ∀ x F fl, fns.lookup x = some (F, fl) → ∃ (f : Addr) (fd : FuncData) (ps : List Str), FnOk P w K mg base (L2.CX P w) k f fd ps (SpF K XR0 F) ∧ mg x = some (.ref f) ∧ PySem.W.keepIn K (.ref f) = true ∧ Binds K fd ps []
theorem fs_nil {k : Nat} : FsOk P w K mg base k [] := fun _ _ _ h => by cases h
theorem fs_cons {k : Nat} {y : Str} {ps : List Str} {F : Fn} {fl : List Bool} {r : List (Str × Fn × List Bool)} (G : Gf P w K mg base k y ps F) (h : FsOk P w K mg base k r) : FsOk P w K mg base k ((y, F, fl) :: r) := by
  intro x F' fl' e
  rw [List.lookup_cons] at e
  cases hxy : (x == y) with
  | false => rw [hxy] at e; exact h x F' fl' e
  | true =>
    rw [hxy] at e
    cases e
    have : x = y := eq_of_beq hxy
    subst this
    exact G.use
abbrev GsOk (mg : Str → Option Value) (gs : List (Str × Str)) : Prop := ∀ x z, gs.lookup x = some z → ∃ t, mg x = some (.str z t)
theorem gs_nil : GsOk mg [] := fun _ _ h => by cases h
theorem gs_cons {y z : Str} {r : List (Str × Str)} (G : ∃ t, mg y = some (.str z t)) (h : GsOk mg r) : GsOk mg ((y, z) :: r) := by
  intro x z' e
  rw [List.lookup_cons] at e
  cases hxy : (x == y) with
  | false => rw [hxy] at e; exact h x z' e
  | true =>
    rw [hxy] at e
    cases e
    have : x = y := eq_of_beq hxy
    subst this
    exact G
abbrev FrOk (mg : Str → Option Value) (fs : List Str) : Prop := ∀ x ∈ fs, mg x = none
theorem fr_nil : FrOk mg [] := fun _ h => by cases h
theorem fr_cons {y : Str} {r : List Str} (G : mg y = none) (h : FrOk mg r) : FrOk mg (y :: r) := by
  intro x hx
  rcases List.mem_cons.mp hx with rfl | hx
  · exact G
  · exact h x hx
theorem stuck_ok {k : Nat} {f : Addr} {fd : FuncData} {ps : List Str} {n : Nat} : FnOk P w K mg base (L2.CX P w) k f fd ps (SpF K XR0 ⟨n, fun _ _ => none⟩) :=
  ⟨fun vs H Q E h => by obtain ⟨_, _, _, _, _, _, _, _, h⟩ := h; exact h.elim, fun A outer s H args us vs Q E _ _ _ _ h => by obtain ⟨_, _, _, _, _, _, _, _, h⟩ := h; exact h.elim⟩
end
theorem facts {P : Program} {w : World} {K : PySem.W.Frag} {h : Heap} {mg : Str → Option Value} (X : K.In h) (G : h.Ns mainGlobals mg) (c : He.SaysD Hd.fa Hd.fn K) : ∃ (f : Addr) (fd : FuncData), mg "law" = some (.ref f) ∧ (∀ (s : Shared) (v : Value), BindsTo s fd ⟨[v], []⟩ [("script", v)]) ∧ ∀ base : Heap, FnOk P w K mg base (L2.CX P w) 10 f fd ["script"] (SpF K XR0 F_law) := by
  obtain ⟨fdL, FL⟩ := c.def_ 27 (d := Hd.d_law) rfl
  refine ⟨_, fdL, He.glo_ok X G (c.fact 27 (f := .glo "law") rfl), fun s v => FunD.bindsA (ps := ["script"]) FL (fun _ _ _ _ _ _ us hl => match us, hl with | [_], _ => rfl) s [v] rfl, fun base => ?_⟩
  have e_LETTERS := He.str_ok X G (c.fact 28 (f := .str "LETTERS" "abcdefghijklmnopqrstuvwxyz") rfl)
  have e_SIGNS := He.str_ok X G (c.fact 29 (f := .str "SIGNS" "abcdefghijklmnopqrstuvwxyz0123456789") rfl)
  have e_isinstance := He.free_ok X G (c.fact 30 (f := .free "isinstance") rfl)
  have e_all := He.free_ok X G (c.fact 31 (f := .free "all") rfl)
  have e_sorted := He.free_ok X G (c.fact 32 (f := .free "sorted") rfl)
  have e_enumerate := He.free_ok X G (c.fact 33 (f := .free "enumerate") rfl)
  have e_list := He.free_ok X G (c.fact 34 (f := .free "list") rfl)
  have e_dict := He.free_ok X G (c.fact 35 (f := .free "dict") rfl)
  have e_range := He.free_ok X G (c.fact 36 (f := .free "range") rfl)
  have e_int := He.free_ok X G (c.fact 37 (f := .free "int") rfl)
  have e_tuple := He.free_ok X G (c.fact 38 (f := .free "tuple") rfl)
  have e_str := He.free_ok X G (c.fact 39 (f := .free "str") rfl)
  have e_bool := He.free_ok X G (c.fact 40 (f := .free "bool") rfl)
  have e_len := He.free_ok X G (c.fact 41 (f := .free "len") rfl)
  have e_zip := He.free_ok X G (c.fact 42 (f := .free "zip") rfl)
  have G_is_integer : Gf P w K mg base 1 "is_integer" ["thing"] F_is_integer := by
    obtain ⟨fd, F⟩ := c.def_ 0 (d := Hd.d_is_integer) rfl
    have b : Binds K fd ["thing"] [] := FunD.bindsN F fun _ _ _ _ _ _ us hl => match us, hl with | [_], _ => rfl
    have q := def_ok (XR := XR0) (w := w) (P := P) (mg := mg) (base := base) (k := 0) (cells := []) (new := false) F sc_is_integer fs_nil gs_nil (fr_cons e_isinstance (fr_cons e_int (fr_cons e_bool fr_nil)))
    rw [l_is_integer] at q
    exact ⟨_, fd, q, He.glo_ok X G (c.fact 0 (f := .glo "is_integer") rfl), F.kp, b⟩
  have G_is_between : Gf P w K mg base 2 "is_between" ["thing", "low", "high"] F_is_between := by
    obtain ⟨fd, F⟩ := c.def_ 1 (d := Hd.d_is_between) rfl
    have b : Binds K fd ["thing", "low", "high"] [] := FunD.bindsN F fun _ _ _ _ _ _ us hl => match us, hl with | [_, _, _], _ => rfl
    have q := def_ok (XR := XR0) (w := w) (P := P) (mg := mg) (base := base) (k := 1) (cells := []) (new := false) F sc_is_between (fs_cons (fl := []) (G_is_integer.mono (by decide : 1 ≤ 1)) fs_nil) gs_nil fr_nil
    rw [l_is_between] at q
    exact ⟨_, fd, q, He.glo_ok X G (c.fact 1 (f := .glo "is_between") rfl), F.kp, b⟩
  have G_is_list : Gf P w K mg base 1 "is_list" ["thing"] F_is_list := by
    obtain ⟨fd, F⟩ := c.def_ 2 (d := Hd.d_is_list) rfl
    have b : Binds K fd ["thing"] [] := FunD.bindsN F fun _ _ _ _ _ _ us hl => match us, hl with | [_], _ => rfl
    have q := def_ok (XR := XR0) (w := w) (P := P) (mg := mg) (base := base) (k := 0) (cells := []) (new := false) F sc_is_list fs_nil gs_nil (fr_cons e_isinstance (fr_cons e_list (fr_cons e_tuple fr_nil)))
    rw [l_is_list] at q
    exact ⟨_, fd, q, He.glo_ok X G (c.fact 2 (f := .glo "is_list") rfl), F.kp, b⟩
  have G_is_row_of : Gf P w K mg base 2 "is_row_of" ["thing", "many"] F_is_row_of := by
    obtain ⟨fd, F⟩ := c.def_ 3 (d := Hd.d_is_row_of) rfl
    have b : Binds K fd ["thing", "many"] [] := FunD.bindsN F fun _ _ _ _ _ _ us hl => match us, hl with | [_, _], _ => rfl
    have q := def_ok (XR := XR0) (w := w) (P := P) (mg := mg) (base := base) (k := 1) (cells := []) (new := false) F sc_is_row_of (fs_cons (fl := []) (G_is_list.mono (by decide : 1 ≤ 1)) fs_nil) gs_nil (fr_cons e_len fr_nil)
    rw [l_is_row_of] at q
    exact ⟨_, fd, q, He.glo_ok X G (c.fact 3 (f := .glo "is_row_of") rfl), F.kp, b⟩
  have G_is_name : Gf P w K mg base 1 "is_name" ["thing"] F_is_name := by
    obtain ⟨fd, F⟩ := c.def_ 4 (d := Hd.d_is_name) rfl
    have b : Binds K fd ["thing"] [] := FunD.bindsN F fun _ _ _ _ _ _ us hl => match us, hl with | [_], _ => rfl
    have q := def_ok (XR := XR0) (w := w) (P := P) (mg := mg) (base := base) (k := 0) (cells := []) (new := false) F sc_is_name fs_nil (gs_cons e_LETTERS (gs_cons e_SIGNS gs_nil)) (fr_cons e_all (fr_cons e_isinstance (fr_cons e_str (fr_cons e_len fr_nil))))
    rw [l_is_name] at q
    exact ⟨_, fd, q, He.glo_ok X G (c.fact 4 (f := .glo "is_name") rfl), F.kp, b⟩
  have G_is_step : Gf P w K mg base 3 "is_step" ["thing"] F_is_step := by
    obtain ⟨fd, F⟩ := c.def_ 5 (d := Hd.d_is_step) rfl
    have b : Binds K fd ["thing"] [] := FunD.bindsN F fun _ _ _ _ _ _ us hl => match us, hl with | [_], _ => rfl
    have q := def_ok (XR := XR0) (w := w) (P := P) (mg := mg) (base := base) (k := 2) (cells := []) (new := false) F sc_is_step (fs_cons (fl := []) (G_is_row_of.mono (by decide : 2 ≤ 2)) (fs_cons (fl := []) (G_is_name.mono (by decide : 1 ≤ 2)) (fs_cons (fl := []) (G_is_between.mono (by decide : 2 ≤ 2)) (fs_cons (fl := []) (G_is_list.mono (by decide : 1 ≤ 2)) fs_nil)))) gs_nil (fr_cons e_len (fr_cons e_isinstance (fr_cons e_str fr_nil)))
    rw [l_is_step] at q
    exact ⟨_, fd, q, He.glo_ok X G (c.fact 5 (f := .glo "is_step") rfl), F.kp, b⟩
  have G_is_program : Gf P w K mg base 4 "is_program" ["thing"] F_is_program := by
    obtain ⟨fd, F⟩ := c.def_ 6 (d := Hd.d_is_program) rfl
    have b : Binds K fd ["thing"] [] := FunD.bindsN F fun _ _ _ _ _ _ us hl => match us, hl with | [_], _ => rfl
    have q := def_ok (XR := XR0) (w := w) (P := P) (mg := mg) (base := base) (k := 3) (cells := []) (new := false) F sc_is_program (fs_cons (fl := []) (G_is_list.mono (by decide : 1 ≤ 3)) (fs_cons (fl := []) (G_is_step.mono (by decide : 3 ≤ 3)) fs_nil)) gs_nil (fr_cons e_all (fr_cons e_len fr_nil))
    rw [l_is_program] at q
    exact ⟨_, fd, q, He.glo_ok X G (c.fact 6 (f := .glo "is_program") rfl), F.kp, b⟩
  have G_rung_in : Gf P w K mg base 1 "rung_in" ["program"] F_rung_in := by
    obtain ⟨fd, F⟩ := c.def_ 7 (d := Hd.d_rung_in) rfl
    have b : Binds K fd ["program"] [] := FunD.bindsN F fun _ _ _ _ _ _ us hl => match us, hl with | [_], _ => rfl
    have q := def_ok (XR := XR0) (w := w) (P := P) (mg := mg) (base := base) (k := 0) (cells := []) (new := false) F sc_rung_in fs_nil gs_nil (fr_cons e_sorted fr_nil)
    rw [l_rung_in] at q
    exact ⟨_, fd, q, He.glo_ok X G (c.fact 7 (f := .glo "rung_in") rfl), F.kp, b⟩
  have G_cells_in : Gf P w K mg base 1 "cells_in" ["program"] F_cells_in := by
    obtain ⟨fd, F⟩ := c.def_ 8 (d := Hd.d_cells_in) rfl
    have b : Binds K fd ["program"] [] := FunD.bindsN F fun _ _ _ _ _ _ us hl => match us, hl with | [_], _ => rfl
    have q := def_ok (XR := XR0) (w := w) (P := P) (mg := mg) (base := base) (k := 0) (cells := []) (new := false) F sc_cells_in fs_nil gs_nil (fr_cons e_sorted fr_nil)
    rw [l_cells_in] at q
    exact ⟨_, fd, q, He.glo_ok X G (c.fact 8 (f := .glo "cells_in") rfl), F.kp, b⟩
  have G_is_kind : Gf P w K mg base 3 "is_kind" ["thing"] F_is_kind := by
    obtain ⟨fd, F⟩ := c.def_ 9 (d := Hd.d_is_kind) rfl
    have b : Binds K fd ["thing"] [] := FunD.bindsN F fun _ _ _ _ _ _ us hl => match us, hl with | [_], _ => rfl
    have q := def_ok (XR := XR0) (w := w) (P := P) (mg := mg) (base := base) (k := 2) (cells := []) (new := false) F sc_is_kind (fs_cons (fl := []) (G_is_row_of.mono (by decide : 2 ≤ 2)) (fs_cons (fl := []) (G_is_between.mono (by decide : 2 ≤ 2)) (fs_cons (fl := []) (G_is_list.mono (by decide : 1 ≤ 2)) fs_nil))) gs_nil (fr_cons e_len (fr_cons e_isinstance (fr_cons e_str fr_nil)))
    rw [l_is_kind] at q
    exact ⟨_, fd, q, He.glo_ok X G (c.fact 9 (f := .glo "is_kind") rfl), F.kp, b⟩
  have G_is_line : Gf P w K mg base 5 "is_line" ["thing"] F_is_line := by
    obtain ⟨fd, F⟩ := c.def_ 10 (d := Hd.d_is_line) rfl
    have b : Binds K fd ["thing"] [] := FunD.bindsN F fun _ _ _ _ _ _ us hl => match us, hl with | [_], _ => rfl
    have q := def_ok (XR := XR0) (w := w) (P := P) (mg := mg) (base := base) (k := 4) (cells := []) (new := false) F sc_is_line (fs_cons (fl := []) (G_is_kind.mono (by decide : 3 ≤ 4)) (fs_cons (fl := []) (G_is_program.mono (by decide : 4 ≤ 4)) (fs_cons (fl := []) (G_is_row_of.mono (by decide : 2 ≤ 4)) (fs_cons (fl := []) (G_is_name.mono (by decide : 1 ≤ 4)) (fs_cons (fl := []) (G_is_between.mono (by decide : 2 ≤ 4)) fs_nil))))) gs_nil fr_nil
    rw [l_is_line] at q
    exact ⟨_, fd, q, He.glo_ok X G (c.fact 10 (f := .glo "is_line") rfl), F.kp, b⟩
  have G__law_spring : Gf P w K mg base 1 "_law_spring" ["script", "turn"] F__law_spring := by
    obtain ⟨fd, F⟩ := c.def_ 11 (d := Hd.d__law_spring) rfl
    have b : Binds K fd ["script", "turn"] [] := FunD.bindsN F fun _ _ _ _ _ _ us hl => match us, hl with | [_, _], _ => rfl
    have q := def_ok (XR := XR0) (w := w) (P := P) (mg := mg) (base := base) (k := 0) (cells := []) (new := true) F sc__law_spring fs_nil gs_nil (fr_cons e_enumerate (fr_cons e_int (fr_cons e_len fr_nil)))
    rw [l__law_spring] at q
    exact ⟨_, fd, q, He.glo_ok X G (c.fact 11 (f := .glo "_law_spring") rfl), F.kp, b⟩
  have G__law_draw : Gf P w K mg base 1 "_law_draw" ["spring", "many"] F__law_draw := by
    obtain ⟨fd, F⟩ := c.def_ 12 (d := Hd.d__law_draw) rfl
    have b : Binds K fd ["spring", "many"] [] := FunD.bindsN F fun _ _ _ _ _ _ us hl => match us, hl with | [_, _], _ => rfl
    have q := def_ok (XR := XR0) (w := w) (P := P) (mg := mg) (base := base) (k := 0) (cells := []) (new := false) F sc__law_draw fs_nil gs_nil (fr_cons e_int fr_nil)
    rw [l__law_draw] at q
    exact ⟨_, fd, q, He.glo_ok X G (c.fact 12 (f := .glo "_law_draw") rfl), F.kp, b⟩
  have G__law_pick : Gf P w K mg base 2 "_law_pick" ["spring", "some"] F__law_pick := by
    obtain ⟨fd, F⟩ := c.def_ 13 (d := Hd.d__law_pick) rfl
    have b : Binds K fd ["spring", "some"] [] := FunD.bindsN F fun _ _ _ _ _ _ us hl => match us, hl with | [_, _], _ => rfl
    have q := def_ok (XR := XR0) (w := w) (P := P) (mg := mg) (base := base) (k := 1) (cells := []) (new := false) F sc__law_pick (fs_cons (fl := [true]) (G__law_draw.mono (by decide : 1 ≤ 1)) fs_nil) gs_nil (fr_cons e_len fr_nil)
    rw [l__law_pick] at q
    exact ⟨_, fd, q, He.glo_ok X G (c.fact 13 (f := .glo "_law_pick") rfl), F.kp, b⟩
  have G__law_mixed : Gf P w K mg base 2 "_law_mixed" ["spring", "some"] F__law_mixed := by
    obtain ⟨fd, F⟩ := c.def_ 14 (d := Hd.d__law_mixed) rfl
    have b : Binds K fd ["spring", "some"] [] := FunD.bindsN F fun _ _ _ _ _ _ us hl => match us, hl with | [_, _], _ => rfl
    have q := def_ok (XR := XR0) (w := w) (P := P) (mg := mg) (base := base) (k := 1) (cells := ["left"]) (new := false) F sc__law_mixed (fs_cons (fl := [true]) (G__law_draw.mono (by decide : 1 ≤ 1)) fs_nil) gs_nil (fr_cons e_list (fr_cons e_range (fr_cons e_len fr_nil)))
    rw [l__law_mixed] at q
    exact ⟨_, fd, q, He.glo_ok X G (c.fact 14 (f := .glo "_law_mixed") rfl), F.kp, b⟩
  have G__law_same : Gf P w K mg base 7 "_law_same" ["found", "due"] (F__law_same 6) := by
    obtain ⟨fd, F⟩ := c.def_ 15 (d := Hd.d__law_same) rfl
    have b : Binds K fd ["found", "due"] [] := FunD.bindsN F fun _ _ _ _ _ _ us hl => match us, hl with | [_, _], _ => rfl
    have g0 := He.glo_ok X G (c.fact 15 (f := .glo "_law_same") rfl)
    have r : ∀ j : Nat, Gf P w K mg base (1 + j) "_law_same" ["found", "due"] (F__law_same j) := by
      intro j
      induction j with
      | zero => exact ⟨_, fd, by unfold F__law_same G__law_same; exact stuck_ok, g0, F.kp, b⟩
      | succ j ih =>
        have q := def_ok (XR := XR0) (w := w) (P := P) (mg := mg) (base := base) (k := 1 + j) (cells := []) (new := false) F sc__law_same (fs_cons (fl := []) ih fs_nil) gs_nil (fr_cons e_isinstance (fr_cons e_dict (fr_cons e_list (fr_cons e_tuple (fr_cons e_all (fr_cons e_bool (fr_cons e_int (fr_cons e_str (fr_cons e_len (fr_cons e_zip fr_nil))))))))))
        have l := l__law_same j
        simp only at l
        rw [l] at q
        exact ⟨_, fd, q, g0, F.kp, b⟩
    exact r 6
  have G__law_loose : Gf P w K mg base 9 "_law_loose" ["spring", "thing"] (F__law_loose 6) := by
    obtain ⟨fd, F⟩ := c.def_ 16 (d := Hd.d__law_loose) rfl
    have b : Binds K fd ["spring", "thing"] [] := FunD.bindsN F fun _ _ _ _ _ _ us hl => match us, hl with | [_, _], _ => rfl
    have g0 := He.glo_ok X G (c.fact 16 (f := .glo "_law_loose") rfl)
    have r : ∀ j : Nat, Gf P w K mg base (3 + j) "_law_loose" ["spring", "thing"] (F__law_loose j) := by
      intro j
      induction j with
      | zero => exact ⟨_, fd, by unfold F__law_loose G__law_loose; exact stuck_ok, g0, F.kp, b⟩
      | succ j ih =>
        have q := def_ok (XR := XR0) (w := w) (P := P) (mg := mg) (base := base) (k := 3 + j) (cells := []) (new := false) F sc__law_loose (fs_cons (fl := [true]) ih (fs_cons (fl := [true]) (G__law_draw.mono (by omega : 1 ≤ 3 + j)) (fs_cons (fl := [true]) (G__law_mixed.mono (by omega : 2 ≤ 3 + j)) fs_nil))) gs_nil (fr_cons e_isinstance (fr_cons e_dict (fr_cons e_tuple (fr_cons e_list fr_nil))))
        have l := l__law_loose j
        simp only at l
        rw [l] at q
        exact ⟨_, fd, q, g0, F.kp, b⟩
    exact r 6
  have G__law_s_whole : Gf P w K mg base 1 "_law_s_whole" ["thing", "low", "high"] F__law_s_whole := by
    obtain ⟨fd, F⟩ := c.def_ 17 (d := Hd.d__law_s_whole) rfl
    have b : Binds K fd ["thing", "low", "high"] [] := FunD.bindsN F fun _ _ _ _ _ _ us hl => match us, hl with | [_, _, _], _ => rfl
    have q := def_ok (XR := XR0) (w := w) (P := P) (mg := mg) (base := base) (k := 0) (cells := []) (new := false) F sc__law_s_whole fs_nil gs_nil (fr_cons e_isinstance (fr_cons e_int (fr_cons e_bool fr_nil)))
    rw [l__law_s_whole] at q
    exact ⟨_, fd, q, He.glo_ok X G (c.fact 17 (f := .glo "_law_s_whole") rfl), F.kp, b⟩
  have G__law_s_name : Gf P w K mg base 1 "_law_s_name" ["thing"] F__law_s_name := by
    obtain ⟨fd, F⟩ := c.def_ 18 (d := Hd.d__law_s_name) rfl
    have b : Binds K fd ["thing"] [] := FunD.bindsN F fun _ _ _ _ _ _ us hl => match us, hl with | [_], _ => rfl
    have q := def_ok (XR := XR0) (w := w) (P := P) (mg := mg) (base := base) (k := 0) (cells := []) (new := false) F sc__law_s_name fs_nil gs_nil (fr_cons e_isinstance (fr_cons e_str (fr_cons e_all (fr_cons e_len fr_nil))))
    rw [l__law_s_name] at q
    exact ⟨_, fd, q, He.glo_ok X G (c.fact 18 (f := .glo "_law_s_name") rfl), F.kp, b⟩
  have G__law_s_listed : Gf P w K mg base 1 "_law_s_listed" ["thing", "many"] F__law_s_listed := by
    obtain ⟨fd, F⟩ := c.def_ 19 (d := Hd.d__law_s_listed) rfl
    have b : Binds K fd ["thing", "many"] [] := FunD.bindsN F fun _ _ _ _ _ _ us hl => match us, hl with | [_, _], _ => rfl
    have q := def_ok (XR := XR0) (w := w) (P := P) (mg := mg) (base := base) (k := 0) (cells := []) (new := false) F sc__law_s_listed fs_nil gs_nil (fr_cons e_isinstance (fr_cons e_list (fr_cons e_tuple (fr_cons e_len fr_nil))))
    rw [l__law_s_listed] at q
    exact ⟨_, fd, q, He.glo_ok X G (c.fact 19 (f := .glo "_law_s_listed") rfl), F.kp, b⟩
  have G__law_s_step : Gf P w K mg base 2 "_law_s_step" ["thing"] F__law_s_step := by
    obtain ⟨fd, F⟩ := c.def_ 20 (d := Hd.d__law_s_step) rfl
    have b : Binds K fd ["thing"] [] := FunD.bindsN F fun _ _ _ _ _ _ us hl => match us, hl with | [_], _ => rfl
    have q := def_ok (XR := XR0) (w := w) (P := P) (mg := mg) (base := base) (k := 1) (cells := []) (new := false) F sc__law_s_step (fs_cons (fl := []) (G__law_s_name.mono (by decide : 1 ≤ 1)) (fs_cons (fl := []) (G__law_s_whole.mono (by decide : 1 ≤ 1)) fs_nil)) gs_nil (fr_cons e_isinstance (fr_cons e_len (fr_cons e_str (fr_cons e_list (fr_cons e_tuple fr_nil)))))
    rw [l__law_s_step] at q
    exact ⟨_, fd, q, He.glo_ok X G (c.fact 20 (f := .glo "_law_s_step") rfl), F.kp, b⟩
  have G__law_s_program : Gf P w K mg base 3 "_law_s_program" ["thing"] F__law_s_program := by
    obtain ⟨fd, F⟩ := c.def_ 21 (d := Hd.d__law_s_program) rfl
    have b : Binds K fd ["thing"] [] := FunD.bindsN F fun _ _ _ _ _ _ us hl => match us, hl with | [_], _ => rfl
    have q := def_ok (XR := XR0) (w := w) (P := P) (mg := mg) (base := base) (k := 2) (cells := []) (new := false) F sc__law_s_program (fs_cons (fl := []) (G__law_s_step.mono (by decide : 2 ≤ 2)) fs_nil) gs_nil (fr_cons e_isinstance (fr_cons e_all (fr_cons e_list (fr_cons e_tuple (fr_cons e_len fr_nil)))))
    rw [l__law_s_program] at q
    exact ⟨_, fd, q, He.glo_ok X G (c.fact 21 (f := .glo "_law_s_program") rfl), F.kp, b⟩
  have G__law_s_kind : Gf P w K mg base 2 "_law_s_kind" ["thing"] F__law_s_kind := by
    obtain ⟨fd, F⟩ := c.def_ 22 (d := Hd.d__law_s_kind) rfl
    have b : Binds K fd ["thing"] [] := FunD.bindsN F fun _ _ _ _ _ _ us hl => match us, hl with | [_], _ => rfl
    have q := def_ok (XR := XR0) (w := w) (P := P) (mg := mg) (base := base) (k := 1) (cells := []) (new := false) F sc__law_s_kind (fs_cons (fl := []) (G__law_s_whole.mono (by decide : 1 ≤ 1)) fs_nil) gs_nil (fr_cons e_isinstance (fr_cons e_len (fr_cons e_str (fr_cons e_list (fr_cons e_tuple fr_nil)))))
    rw [l__law_s_kind] at q
    exact ⟨_, fd, q, He.glo_ok X G (c.fact 22 (f := .glo "_law_s_kind") rfl), F.kp, b⟩
  have G__law_s_line : Gf P w K mg base 4 "_law_s_line" ["thing"] F__law_s_line := by
    obtain ⟨fd, F⟩ := c.def_ 23 (d := Hd.d__law_s_line) rfl
    have b : Binds K fd ["thing"] [] := FunD.bindsN F fun _ _ _ _ _ _ us hl => match us, hl with | [_], _ => rfl
    have q := def_ok (XR := XR0) (w := w) (P := P) (mg := mg) (base := base) (k := 3) (cells := []) (new := false) F sc__law_s_line (fs_cons (fl := []) (G__law_s_whole.mono (by decide : 1 ≤ 3)) (fs_cons (fl := []) (G__law_s_kind.mono (by decide : 2 ≤ 3)) (fs_cons (fl := []) (G__law_s_program.mono (by decide : 3 ≤ 3)) (fs_cons (fl := []) (G__law_s_listed.mono (by decide : 1 ≤ 3)) (fs_cons (fl := []) (G__law_s_name.mono (by decide : 1 ≤ 3)) fs_nil))))) gs_nil fr_nil
    rw [l__law_s_line] at q
    exact ⟨_, fd, q, He.glo_ok X G (c.fact 23 (f := .glo "_law_s_line") rfl), F.kp, b⟩
  have G__law_s_drawn_name : Gf P w K mg base 3 "_law_s_drawn_name" ["spring"] F__law_s_drawn_name := by
    obtain ⟨fd, F⟩ := c.def_ 24 (d := Hd.d__law_s_drawn_name) rfl
    have b : Binds K fd ["spring"] [] := FunD.bindsN F fun _ _ _ _ _ _ us hl => match us, hl with | [_], _ => rfl
    have q := def_ok (XR := XR0) (w := w) (P := P) (mg := mg) (base := base) (k := 2) (cells := []) (new := false) F sc__law_s_drawn_name (fs_cons (fl := [true]) (G__law_pick.mono (by decide : 2 ≤ 2)) fs_nil) gs_nil fr_nil
    rw [l__law_s_drawn_name] at q
    exact ⟨_, fd, q, He.glo_ok X G (c.fact 24 (f := .glo "_law_s_drawn_name") rfl), F.kp, b⟩
  have G__law_s_drawn_step : Gf P w K mg base 4 "_law_s_drawn_step" ["spring"] F__law_s_drawn_step := by
    obtain ⟨fd, F⟩ := c.def_ 25 (d := Hd.d__law_s_drawn_step) rfl
    have b : Binds K fd ["spring"] [] := FunD.bindsN F fun _ _ _ _ _ _ us hl => match us, hl with | [_], _ => rfl
    have q := def_ok (XR := XR0) (w := w) (P := P) (mg := mg) (base := base) (k := 3) (cells := []) (new := false) F sc__law_s_drawn_step (fs_cons (fl := [true]) (G__law_pick.mono (by decide : 2 ≤ 3)) (fs_cons (fl := [true]) (G__law_s_drawn_name.mono (by decide : 3 ≤ 3)) (fs_cons (fl := [true]) (G__law_draw.mono (by decide : 1 ≤ 3)) fs_nil))) gs_nil fr_nil
    rw [l__law_s_drawn_step] at q
    exact ⟨_, fd, q, He.glo_ok X G (c.fact 25 (f := .glo "_law_s_drawn_step") rfl), F.kp, b⟩
  have G__law_s_drawn_kind : Gf P w K mg base 3 "_law_s_drawn_kind" ["spring"] F__law_s_drawn_kind := by
    obtain ⟨fd, F⟩ := c.def_ 26 (d := Hd.d__law_s_drawn_kind) rfl
    have b : Binds K fd ["spring"] [] := FunD.bindsN F fun _ _ _ _ _ _ us hl => match us, hl with | [_], _ => rfl
    have q := def_ok (XR := XR0) (w := w) (P := P) (mg := mg) (base := base) (k := 2) (cells := []) (new := false) F sc__law_s_drawn_kind (fs_cons (fl := [true]) (G__law_pick.mono (by decide : 2 ≤ 2)) (fs_cons (fl := [true]) (G__law_draw.mono (by decide : 1 ≤ 2)) fs_nil)) gs_nil fr_nil
    rw [l__law_s_drawn_kind] at q
    exact ⟨_, fd, q, He.glo_ok X G (c.fact 26 (f := .glo "_law_s_drawn_kind") rfl), F.kp, b⟩
  have q := def_ok (XR := XR0) (w := w) (P := P) (mg := mg) (base := base) (k := 9) (cells := ["spring"]) (new := false) FL sc_law (fs_cons (fl := []) (G__law_same.mono (by decide : 7 ≤ 9)) (fs_cons (fl := []) (G_is_line.mono (by decide : 5 ≤ 9)) (fs_cons (fl := []) (G__law_spring.mono (by decide : 1 ≤ 9)) (fs_cons (fl := []) (G_is_program.mono (by decide : 4 ≤ 9)) (fs_cons (fl := [true]) (G__law_s_drawn_step.mono (by decide : 4 ≤ 9)) (fs_cons (fl := [true]) (G__law_s_drawn_kind.mono (by decide : 3 ≤ 9)) (fs_cons (fl := [true]) (G__law_pick.mono (by decide : 2 ≤ 9)) (fs_cons (fl := [true]) (G__law_s_drawn_name.mono (by decide : 3 ≤ 9)) (fs_cons (fl := [true]) (G__law_draw.mono (by decide : 1 ≤ 9)) (fs_cons (fl := []) (G_is_step.mono (by decide : 3 ≤ 9)) (fs_cons (fl := []) (G_is_kind.mono (by decide : 3 ≤ 9)) (fs_cons (fl := []) (G__law_s_line.mono (by decide : 4 ≤ 9)) (fs_cons (fl := [true]) (G__law_loose.mono (by decide : 9 ≤ 9)) (fs_cons (fl := []) (G__law_s_step.mono (by decide : 2 ≤ 9)) (fs_cons (fl := []) (G__law_s_program.mono (by decide : 3 ≤ 9)) (fs_cons (fl := []) (G_cells_in.mono (by decide : 1 ≤ 9)) (fs_cons (fl := []) (G_rung_in.mono (by decide : 1 ≤ 9)) (fs_cons (fl := []) (G__law_s_kind.mono (by decide : 2 ≤ 9)) fs_nil)))))))))))))))))) gs_nil (fr_cons e_range (fr_cons e_sorted (fr_cons e_dict (fr_cons e_tuple (fr_cons e_list fr_nil)))))
  rw [l_law] at q
  exact q
end M

/-! part Z0 -/
set_option maxRecDepth 100000
set_option maxHeartbeats 0
namespace M
open L2 FL PyProof.Rows PySem.Spec PySem
def CXW : CXT := fun outer H s E u s' => ∃ (P : Program) (w : World), L2.CX P w outer H s E u s'
theorem fn_wx {P : Program} {w : World} {K : PySem.W.Frag} {mg : Str → Option Value} {base : Heap} {k : Nat} {f : Addr} {fd : FuncData} {ps : List Str} {sp : Sp} (F : FnOk P w K mg base (L2.CX P w) k f fd ps sp) : FnOk P w K mg base CXW k f fd ps sp :=
  ⟨F.len, fun A outer s H args us vs Q E hr he hb hv hs => codeAny_mono (F.run A outer s H args us vs Q E hr he hb hv hs) fun r s' hq => by
    match r, hq with
    | .ok (.ret u), hq => exact hq
    | .error e, hq => exact ⟨P, w, hq⟩⟩
theorem cxw_no (H : Hp) (s : Shared) (e : Value) (s' : Shared) (h : CXW [] H s (fun _ _ _ => False) e s') : False := by
  obtain ⟨_, _, _, _, _, _, _, _, _, _, _, _, _, _, h⟩ := h
  exact h
theorem sp_law {K : PySem.W.Frag} {F : Fn} {H : Hp} {a : Addr} {ns : List Int} (ha : F.arity = 1) (hl : ns.length ≤ sizeLine) (hS : SqL K H a (ns.map V.int)) (hF : ∀ C, ∃ C', F.run [.d (.scr ns)] C = some (.ok (rd (.bl true)) C')) : SpF K XR0 F [.ref a] H (fun v _ => v = .bl true) fun _ _ _ => False := by
  obtain ⟨C', hr⟩ := hF []
  refine ⟨ha.symm, fun _ => none, H, [], [], [.d (.scr ns)], ⟨fun _ _ h => h, rfl, List.nodup_nil, fun i a c h => (by cases h), fun a h => (by cases h), fun a o h => (by cases h)⟩, .cons (.scr hS hl) .nil, ?_⟩
  rw [hr]
  intro R' as' v H' _ _ hp
  have hp : Rp K R' v (.bl true) := hp
  cases hp
  rfl
end M

/-! part Z1 -/
set_option maxRecDepth 100000
set_option maxHeartbeats 0
open PyProof.Rows PySem.Calls PySem.W PySem
theorem PySem.Challenge.cw_bellsranked_k01_whole_steps_programs_lin_holds : PySem.Challenge.rw_bellsranked_k01_whole_steps_programs_lin.Holds := by
  w_on; o_law
  refine HandSHeadRun.head_any (r := OpenLaw.row PySem.Challenge.rw_bellsranked_k01_whole_steps_programs_lin) (q := view (OpenLaw.row PySem.Challenge.rw_bellsranked_k01_whole_steps_programs_lin).prog [33]) (H := Hd.hk) (ob := Hd.ob) (M := 4000) (loose := Hd.loose) (d := HandSHeadRun.topDef (OpenLaw.row PySem.Challenge.rw_bellsranked_k01_whole_steps_programs_lin).prog 33) (kwd := []) Hd.ob_eq
    (by kernel_rfl) (fun s => by kernel_rfl) Hd.run (by kernel_rfl) (by kernel_rfl) (by kernel_rfl) (by rfl) (by first | assumption | decide +kernel) (by decide +kernel) ⟨rfl, rfl, rfl, rfl, rfl, by decide +kernel⟩ ?hw ?hc
  case hw => w_witness2
  case hc =>
    refine L2.walk_ofE (l := PySem.Challenge.rw_bellsranked_k01_whole_steps_programs_lin) (n := 63) (k := 10) (x := "script") (CX := M.CXW) rfl (by decide) (by kernel_rfl) ⟨rfl, by decide, by decide⟩ ?F M.cxw_no
    intro w mg fa h Y G hmg0
    obtain ⟨K, KX, c⟩ := Y
    have hmg : mg ("law" : PySem.Str) = some (.ref fa) := by
      have e : (HandSHeadRun.topDef (OpenLaw.row PySem.Challenge.rw_bellsranked_k01_whole_steps_programs_lin).prog 33).name = ("law" : PySem.Str) := by kernel_rfl
      rw [← e]
      exact hmg0
    obtain ⟨f, fd, hg, hb, hF⟩ := M.facts (P := (PySem.Challenge.rw_bellsranked_k01_whole_steps_programs_lin).prog) (w := w) KX G c
    have e := hmg.symm.trans hg
    cases e
    exact ⟨K, fd, FL.SpF K M.XR0 M.F_law, KX, hb, fun H a ns hl _ hS => M.sp_law M.ar_law (Nat.le_trans hl (by decide +kernel)) hS fun C => M.law_ok (Nat.le_trans hl (by decide +kernel)), fun base _ _ => M.fn_wx (hF base)⟩
